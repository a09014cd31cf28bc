import PyProof.Rows.All
import Wide.All
import OpenK.AllK
import Wide.FinOn
import HandS.ForMost
import HandS.IsInst
import HandS.TupAny
import HandS.Flow
import HandS.NoneIn
import HandS.Defaults
import HandS.FStr
import HandS.Deep
import HandS.Zip
import HandS.Style
import HandS.WideBits
import HandS.TryOnly
import HandS.Small
import HandS.More
import HandS.Codes
import HandS.WordsDict
import HandS.Text
import HandS.Strs
import HandS.MakeKw
import HandS.MakeKwOnly
import HandS.SetKeys
import PyProof.StrLawsTight
import KE.KUnpackStar
import HandS.SetBool
import HandS.Comp
import PyProof.Rows.SortShellAny
import HandS.DictComp
import HandS.HeadHook1
import HandS.HeadHook2
import HandS.HeadHook3
import HandS.Head0
import HandS.Head1
import HandS.Head2
import HandS.HeadEnd
import PySem.Challenge.RW_tenrules_k03_variables_and_kinds_exchang
import KE.KStateDown
set_option Elab.async false
set_option linter.all false
set_option maxRecDepth 100000
set_option maxHeartbeats 2000000
/-! TR1: trees and cells: what the values of a run stand for. -/
namespace TR
open PySem PySem.Spec L2

/-- a value as a tree; obj i: the i-th cell; frz: a list that nobody changes -/
inductive T where
  | non | bl (b : Bool) | int (i : Int) | str (x : List Nat) | tup (xs : List T) | frz (xs : List T) | obj (i : Nat)

abbrev mkS (x : List Nat) : Str := ⟨x.toArray⟩
theorem mkS_toList (x : Str) : mkS x.cps.toList = x := by cases x; simp [mkS]
theorem mkS_inj {x y : List Nat} (h : mkS x = mkS y) : x = y := by
  have := congrArg (fun s : Str => s.cps.toList) h
  simpa [mkS] using this
theorem mkS_cps (x : List Nat) : (mkS x).cps.toList = x := by simp [mkS]
theorem mkS_len (x : List Nat) : (mkS x).length = x.length := by simp [mkS, Str.length]

/-- a list that stays: frozen, or of the written part -/
def SqF (K : PySem.W.Frag) (H : Hp) (a : Addr) (xs : List V) : Prop :=
  (∃ o, H a = some (.frz o (.lst xs))) ∨
    ∃ (o : Obj) (its : Array Value) (n : Nat), K.lookup a = some o ∧ o.cls = .type "list" ∧ o.dict = none ∧ o.data = .seq its n ∧ its.size ≤ sizeLine ∧ Vals xs its.toList
theorem SqF.l {K : PySem.W.Frag} {H : Hp} {a : Addr} {xs : List V} (h : SqF K H a xs) : SqL K H a xs := by
  rcases h with ⟨o, e⟩ | h
  · exact .inl (.inr ⟨o, e⟩)
  · exact .inr h

mutual
inductive RelT (K : PySem.W.Frag) (H : Hp) (m : List Addr) : T → V → Prop
  | non : RelT K H m .non .non
  | bl (b : Bool) : RelT K H m (.bl b) (.bl b)
  | int (i : Int) : RelT K H m (.int i) (.int i)
  | str (x : List Nat) : RelT K H m (.str x) (.str (mkS x))
  | tup {ts : List T} {vs : List V} {a : Addr} : SqT K H a vs → RelTs K H m ts vs → RelT K H m (.tup ts) (.ref a)
  | frz {ts : List T} {vs : List V} {a : Addr} : SqF K H a vs → RelTs K H m ts vs → RelT K H m (.frz ts) (.ref a)
  | obj {i : Nat} {a : Addr} : m[i]? = some a → RelT K H m (.obj i) (.ref a)
inductive RelTs (K : PySem.W.Frag) (H : Hp) (m : List Addr) : List T → List V → Prop
  | nil : RelTs K H m [] []
  | cons {t : T} {ts : List T} {v : V} {vs : List V} : RelT K H m t v → RelTs K H m ts vs → RelTs K H m (t :: ts) (v :: vs)
end

theorem pre_get {m m' : List Addr} (h : m <+: m') {i : Nat} {a : Addr} (e : m[i]? = some a) : m'[i]? = some a := by
  obtain ⟨r, rfl⟩ := h
  rw [List.getElem?_append_left (List.getElem?_eq_some_iff.mp e).1]
  exact e
/-- a part of a run: m the cells' places. What is not at a cell's place stays, new cells are at new places -/
structure Step (m : List Addr) (H : Hp) (m' : List Addr) (H' : Hp) : Prop where
  pre : m <+: m'
  tup : ∀ a xs, H a = some (.tup xs) → H' a = some (.tup xs)
  frz : ∀ a o u, H a = some (.frz o u) → H' a = some (.frz o u)
  rest : ∀ a o, H a = some o → a ∉ m → H' a = some o
  new_ : ∀ p, p ∈ m' → p ∉ m → H p = none
section
variable {m m1 m2 m' : List Addr} {H H1 H2 H3 H' : Hp}
theorem Step.rfl' : Step m H m H := ⟨List.prefix_refl _, fun _ _ h => h, fun _ _ _ h => h, fun _ _ h _ => h, fun _ h n => absurd h n⟩
theorem Step.trans (a : Step m H m1 H1) (b : Step m1 H1 m2 H2) : Step m H m2 H2 where
  pre := a.pre.trans b.pre
  tup := fun p xs h => b.tup p xs (a.tup p xs h)
  frz := fun p o u h => b.frz p o u (a.frz p o u h)
  rest := fun p o h n => b.rest p o (a.rest p o h n) fun z => by
    have e := a.new_ p z n
    rw [h] at e
    cases e
  new_ := fun p hp n => by
    by_cases z : p ∈ m1
    · exact a.new_ p z n
    · have q := b.new_ p hp z
      cases e : H p with
      | none => rfl
      | some o => rw [a.rest p o e n] at q; cases q
theorem Step.new {p : Addr} {o : HO} (h : H p = none) : Step m H m (upd H p o) :=
  ⟨List.prefix_refl _, fun a xs e => by rw [upd_ne (ne_of_none e h)]; exact e, fun a o' u e => by rw [upd_ne (ne_of_none e h)]; exact e, fun a o' e _ => by rw [upd_ne (ne_of_none e h)]; exact e, fun _ h n => absurd h n⟩
theorem Step.push {p : Addr} {o : HO} (h : H p = none) : Step m H (m ++ [p]) (upd H p o) :=
  ⟨List.prefix_append _ _, fun a xs e => by rw [upd_ne (ne_of_none e h)]; exact e, fun a o' u e => by rw [upd_ne (ne_of_none e h)]; exact e, fun a o' e _ => by rw [upd_ne (ne_of_none e h)]; exact e,
   fun q hq n => by
    rcases List.mem_append.mp hq with z | z
    · exact absurd z n
    · rw [List.mem_singleton.mp z]; exact h⟩
theorem Step.put {p : Addr} {o u : HO} (hp : p ∈ m) (h : H p = some u) (n1 : ∀ xs, u ≠ .tup xs) (n2 : ∀ o' w, u ≠ .frz o' w) : Step m H m (upd H p o) :=
  ⟨List.prefix_refl _, fun a xs e => by rw [upd_ne (fun z => n1 xs (by subst z; rw [h] at e; exact Option.some.inj e))]; exact e,
   fun a o' w e => by rw [upd_ne (fun z => n2 o' w (by subst z; rw [h] at e; exact Option.some.inj e))]; exact e,
   fun a o' e n => by rw [upd_ne (show a ≠ p from fun z => n (by rw [z]; exact hp))]; exact e, fun _ h n => absurd h n⟩
/-- what values need of a part of a run -/
structure Kp (m : List Addr) (H : Hp) (m' : List Addr) (H' : Hp) : Prop where
  pre : m <+: m'
  tup : ∀ a xs, H a = some (.tup xs) → H' a = some (.tup xs)
  frz : ∀ a o u, H a = some (.frz o u) → H' a = some (.frz o u)
theorem Step.kp (k : Step m H m' H') : Kp m H m' H' := ⟨k.pre, k.tup, k.frz⟩
theorem Kp.trans (a : Kp m H m1 H1) (b : Kp m1 H1 m2 H2) : Kp m H m2 H2 := ⟨a.pre.trans b.pre, fun x y h => b.tup x y (a.tup x y h), fun x o u h => b.frz x o u (a.frz x o u h)⟩
theorem Kp.rd (k : Kp m H m' H') {a : Addr} {xs : List V} (h : Rd H a (.tup xs)) : Rd H' a (.tup xs) := by
  rcases h with h | ⟨o, h⟩
  · exact .inl (k.tup _ _ h)
  · exact .inr ⟨o, k.frz _ _ _ h⟩
theorem Kp.sqt {K : PySem.W.Frag} (k : Kp m H m' H') {a : Addr} {xs : List V} (h : SqT K H a xs) : SqT K H' a xs := by
  rcases h with h | h
  · exact .inl (k.rd h)
  · exact .inr h
theorem Kp.sqf {K : PySem.W.Frag} (k : Kp m H m' H') {a : Addr} {xs : List V} (h : SqF K H a xs) : SqF K H' a xs := by
  rcases h with ⟨o, h⟩ | h
  · exact .inl ⟨o, k.frz _ _ _ h⟩
  · exact .inr h
theorem Step.sqt {K : PySem.W.Frag} (k : Step m H m' H') {a : Addr} {xs : List V} (h : SqT K H a xs) : SqT K H' a xs := k.kp.sqt h
theorem Step.sqf {K : PySem.W.Frag} (k : Step m H m' H') {a : Addr} {xs : List V} (h : SqF K H a xs) : SqF K H' a xs := k.kp.sqf h
end
section
variable {K : PySem.W.Frag} {H H' : Hp} {m m' : List Addr}
mutual
theorem RelT.monoK (k : Kp m H m' H') : ∀ {t : T} {v : V}, RelT K H m t v → RelT K H' m' t v
  | _, _, .non => .non
  | _, _, .bl b => .bl b
  | _, _, .int i => .int i
  | _, _, .str x => .str x
  | _, _, .tup h r => .tup (k.sqt h) (RelTs.monoK k r)
  | _, _, .frz h r => .frz (k.sqf h) (RelTs.monoK k r)
  | _, _, .obj h => .obj (pre_get k.pre h)
theorem RelTs.monoK (k : Kp m H m' H') : ∀ {ts : List T} {vs : List V}, RelTs K H m ts vs → RelTs K H' m' ts vs
  | _, _, .nil => .nil
  | _, _, .cons h r => .cons (RelT.monoK k h) (RelTs.monoK k r)
end
theorem RelT.mono (k : Step m H m' H') {t : T} {v : V} (r : RelT K H m t v) : RelT K H' m' t v := r.monoK k.kp
theorem RelTs.mono (k : Step m H m' H') {ts : List T} {vs : List V} (r : RelTs K H m ts vs) : RelTs K H' m' ts vs := r.monoK k.kp
theorem RelTs.length {ts : List T} {vs : List V} : RelTs K H m ts vs → ts.length = vs.length
  | .nil => rfl
  | .cons _ r => congrArg (· + 1) r.length
theorem RelTs.get : ∀ {ts : List T} {vs : List V} {i : Nat} {t : T}, RelTs K H m ts vs → ts[i]? = some t → ∃ v, vs[i]? = some v ∧ RelT K H m t v
  | _, _, _, _, .nil, e => by simp at e
  | _, _, 0, _, .cons h _, e => by simp at e; subst e; exact ⟨_, rfl, h⟩
  | _, _, i + 1, t, .cons _ r, e => by
    obtain ⟨v, h1, h2⟩ := RelTs.get (i := i) (t := t) r (by simpa using e)
    exact ⟨v, by simpa using h1, h2⟩
theorem RelTs.append : ∀ {ts us : List T} {vs ws : List V}, RelTs K H m ts vs → RelTs K H m us ws → RelTs K H m (ts ++ us) (vs ++ ws)
  | _, _, _, _, .nil, s => s
  | _, _, _, _, .cons h r, s => .cons h (RelTs.append r s)
theorem RelTs.take : ∀ {ts : List T} {vs : List V} (n : Nat), RelTs K H m ts vs → RelTs K H m (ts.take n) (vs.take n)
  | _, _, 0, _ => .nil
  | _, _, _ + 1, .nil => .nil
  | _, _, n + 1, .cons h r => .cons h (RelTs.take n r)
theorem RelTs.drop : ∀ {ts : List T} {vs : List V} (n : Nat), RelTs K H m ts vs → RelTs K H m (ts.drop n) (vs.drop n)
  | _, _, 0, r => r
  | _, _, _ + 1, .nil => .nil
  | _, _, n + 1, .cons h r => RelTs.drop n r
theorem RelTs.set {t : T} {v : V} (h : RelT K H m t v) : ∀ {ts : List T} {vs : List V} (i : Nat), RelTs K H m ts vs → RelTs K H m (ts.set i t) (vs.set i v)
  | _, _, _, .nil => .nil
  | _, _, 0, .cons _ r => .cons h r
  | _, _, i + 1, .cons q r => .cons q (RelTs.set h i r)
theorem RelTs.eraseIdx : ∀ {ts : List T} {vs : List V} (i : Nat), RelTs K H m ts vs → RelTs K H m (ts.eraseIdx i) (vs.eraseIdx i)
  | _, _, _, .nil => .nil
  | _, _, 0, .cons _ r => r
  | _, _, i + 1, .cons q r => .cons q (RelTs.eraseIdx i r)
theorem RelTs.dropLast : ∀ {ts : List T} {vs : List V}, RelTs K H m ts vs → RelTs K H m ts.dropLast vs.dropLast
  | _, _, .nil => .nil
  | _, _, .cons _ .nil => .nil
  | _, _, .cons h (.cons h2 r) => .cons h (RelTs.dropLast (.cons h2 r))
theorem RelTs.reverse : ∀ {ts : List T} {vs : List V}, RelTs K H m ts vs → RelTs K H m ts.reverse vs.reverse
  | _, _, .nil => .nil
  | _, _, .cons h r => by rw [List.reverse_cons, List.reverse_cons]; exact (RelTs.reverse r).append (.cons h .nil)
theorem RelTs.map {α : Type} {f : α → T} {g : α → V} : ∀ {l : List α}, (∀ x ∈ l, RelT K H m (f x) (g x)) → RelTs K H m (l.map f) (l.map g)
  | [], _ => .nil
  | x :: r, h => .cons (h x List.mem_cons_self) (RelTs.map fun y hy => h y (List.mem_cons_of_mem _ hy))
theorem RelTs.nil_iff {ts : List T} {vs : List V} (r : RelTs K H m ts vs) : ts = [] ↔ vs = [] := by
  cases r with
  | nil => exact ⟨fun _ => rfl, fun _ => rfl⟩
  | cons _ _ => exact ⟨fun h => (by cases h), fun h => (by cases h)⟩
theorem RelT.int_of {t : T} {i : Int} (r : RelT K H m t (.int i)) : t = .int i := by cases r; rfl
end

/-! ### cells -/
inductive Cell where
  | lst (xs : List T)
  | dct (kvs : List (T × T))
  | ins (c : List Nat) (fs : List (List Nat × T))
abbrev Sta := List Cell

/-- a key of a dict, as HandS has it: an int, a text -/
def keyOf : T → Option Key
  | .int i => some (.inl i)
  | .str x => some (.inr (mkS x))
  | _ => none
def keysOf : List T → Option (List Key)
  | [] => some []
  | t :: ts => match keyOf t, keysOf ts with
    | some k, some ks => some (k :: ks)
    | _, _ => none
def keyT : T → Option (List Key)
  | .tup ts => keysOf ts
  | _ => none
/-- where a class of one's own stands; what the cells and the heap were at the entry -/
structure ClsAt where
  at_ : List Nat → Option Addr
  m0 : List Addr
  H0 : Hp
def CellRel (K : PySem.W.Frag) (CA : ClsAt) (H : Hp) (m : List Addr) : Cell → Addr → Prop
  | .lst xs, a => ∃ vs, H a = some (.lst vs) ∧ RelTs K H m xs vs
  | .dct kvs, a =>
      (∃ l : List (Key × V), H a = some (.dK l) ∧ Paired (fun (p : T × T) (q : Key × V) => keyOf p.1 = some q.1 ∧ RelT K H m p.2 q.2) kvs l)
  | .ins c fs, a => ∃ C dx l, CA.at_ c = some C ∧ H a = some (.ins C dx l) ∧ Paired (fun (p : List Nat × T) (q : Str × V) => mkS p.1 = q.1 ∧ RelT K H m p.2 q.2) fs l
structure RelS (K : PySem.W.Frag) (CA : ClsAt) (H : Hp) (m : List Addr) (S : Sta) : Prop where
  nd : m.Nodup
  len : m.length = S.length
  at_ : ∀ (i : Nat) (c : Cell) (a : Addr), S[i]? = some c → m[i]? = some a → CellRel K CA H m c a
  from_ : Step CA.m0 CA.H0 m H
abbrev Ev := List (Option T)
def RelO (K : PySem.W.Frag) (H : Hp) (m : List Addr) : Option T → Option V → Prop
  | some t, some v => RelT K H m t v
  | some _, none => False
  | none, _ => True
abbrev RelE (K : PySem.W.Frag) (H : Hp) (m : List Addr) : Ev → St → Prop := Paired (RelO K H m)

theorem Paired.imp {α β : Type} {F G : α → β → Prop} (h : ∀ a b, F a b → G a b) : ∀ {l₁ : List α} {l₂ : List β}, Paired F l₁ l₂ → Paired G l₁ l₂
  | _, _, .nil => .nil
  | _, _, .cons a r => .cons (h _ _ a) (Paired.imp h r)
section
variable {K : PySem.W.Frag} {CA : ClsAt} {H H' : Hp} {m m' : List Addr} {S : Sta}
theorem RelO.monoK (k : Kp m H m' H') : ∀ {t : Option T} {v : Option V}, RelO K H m t v → RelO K H' m' t v
  | some _, some _, h => RelT.monoK k h
  | some _, none, h => h
  | none, _, _ => trivial
theorem RelE.monoK (k : Kp m H m' H') {ρ : Ev} {σ : St} (h : RelE K H m ρ σ) : RelE K H' m' ρ σ := Paired.imp (fun _ _ q => RelO.monoK k q) h
theorem RelE.mono (k : Step m H m' H') {ρ : Ev} {σ : St} (h : RelE K H m ρ σ) : RelE K H' m' ρ σ := h.monoK k.kp
/-- a cell that is kept as it lies -/
theorem CellRel.monoK (k : Kp m H m' H') {c : Cell} {a : Addr} (e : H' a = H a) (h : CellRel K CA H m c a) : CellRel K CA H' m' c a := by
  cases c with
  | lst xs => obtain ⟨vs, h1, h2⟩ := h; exact ⟨vs, by rw [e]; exact h1, h2.monoK k⟩
  | dct kvs =>
    obtain ⟨l, h1, h2⟩ := h
    exact ⟨l, by rw [e]; exact h1, Paired.imp (fun _ _ q => ⟨q.1, q.2.monoK k⟩) h2⟩
  | ins c fs =>
    obtain ⟨C, dx, l, h0, h1, h2⟩ := h
    exact ⟨C, dx, l, h0, by rw [e]; exact h1, Paired.imp (fun _ _ q => ⟨q.1, q.2.monoK k⟩) h2⟩
theorem CellRel.mono (k : Step m H m' H') {c : Cell} {a : Addr} (e : H' a = H a) (h : CellRel K CA H m c a) : CellRel K CA H' m' c a := h.monoK k.kp e
theorem CellRel.some_ {c : Cell} {a : Addr} (h : CellRel K CA H m c a) : H a ≠ none := by
  cases c with
  | lst xs => obtain ⟨vs, h1, _⟩ := h; rw [h1]; exact fun z => by cases z
  | dct kvs => obtain ⟨l, h1, _⟩ := h; rw [h1]; exact fun z => by cases z
  | ins c fs => obtain ⟨C, dx, l, _, h1, _⟩ := h; rw [h1]; exact fun z => by cases z
theorem RelS.get {i : Nat} {c : Cell} (r : RelS K CA H m S) (e : S[i]? = some c) : ∃ a, m[i]? = some a ∧ CellRel K CA H m c a := by
  have hi : i < m.length := by rw [r.len]; exact (List.getElem?_eq_some_iff.mp e).1
  exact ⟨m[i], List.getElem?_eq_getElem hi, r.at_ i c _ e (List.getElem?_eq_getElem hi)⟩
theorem RelS.live {i : Nat} {a : Addr} (r : RelS K CA H m S) (e : m[i]? = some a) : H a ≠ none := by
  have hi : i < S.length := by rw [← r.len]; exact (List.getElem?_eq_some_iff.mp e).1
  exact (r.at_ i _ a (List.getElem?_eq_getElem hi) e).some_
theorem RelS.notin {p : Addr} (r : RelS K CA H m S) (h : H p = none) : p ∉ m := fun hp => by
  obtain ⟨i, hi, e⟩ := List.mem_iff_getElem.mp hp
  exact r.live (i := i) (a := p) (by rw [List.getElem?_eq_getElem hi, e]) h
/-- where the heap differs only at an address that no cell has -/
theorem RelS.keep (r : RelS K CA H m S) (k : Step m H m H') (e : ∀ a ∈ m, H' a = H a) : RelS K CA H' m S :=
  ⟨r.nd, r.len, fun i c a h1 h2 => (r.at_ i c a h1 h2).mono k (e a (List.mem_of_getElem? h2)), r.from_.trans k⟩
theorem RelS.new (r : RelS K CA H m S) {p : Addr} {o : HO} (h : H p = none) : RelS K CA (upd H p o) m S :=
  r.keep (Step.new h) fun a ha => upd_ne fun z => r.notin h (z ▸ ha)
/-- a new cell -/
theorem RelS.pushAt (r : RelS K CA H m S) {p : Addr} {c : Cell} (hp : p ∉ m) (k : Step m H (m ++ [p]) H') (e : ∀ a ∈ m, H' a = H a) (hc : CellRel K CA H' (m ++ [p]) c p) : RelS K CA H' (m ++ [p]) (S ++ [c]) := by
  refine ⟨?_, by simp [r.len], fun i c' a h1 h2 => ?_, r.from_.trans k⟩
  · rw [List.nodup_append]
    exact ⟨r.nd, by simp, fun x hx y hy => by
      rw [List.mem_singleton] at hy
      subst hy
      exact fun z => hp (z ▸ hx)⟩
  · by_cases hi : i < m.length
    · rw [List.getElem?_append_left hi] at h2
      rw [List.getElem?_append_left (by rw [← r.len]; exact hi)] at h1
      exact (r.at_ i c' a h1 h2).mono k (e a (List.mem_of_getElem? h2))
    · have e : i = m.length := by
        have := (List.getElem?_eq_some_iff.mp h2).1
        simp at this
        omega
      subst e
      rw [List.getElem?_append_right (Nat.le_refl _)] at h2
      rw [List.getElem?_append_right (by rw [r.len]; exact Nat.le_refl _)] at h1
      simp at h2
      simp [r.len] at h1
      subst h2 h1
      exact hc
theorem RelS.push (r : RelS K CA H m S) {p : Addr} {o : HO} {c : Cell} (h : H p = none) (hc : CellRel K CA (upd H p o) (m ++ [p]) c p) : RelS K CA (upd H p o) (m ++ [p]) (S ++ [c]) :=
  r.pushAt (r.notin h) (Step.push h) (fun a ha => upd_ne fun z => r.notin h (z ▸ ha)) hc
theorem nodup_at {m : List Addr} (nd : m.Nodup) {i j : Nat} {a : Addr} (h1 : m[i]? = some a) (h2 : m[j]? = some a) : i = j := by
  obtain ⟨l1, e1⟩ := List.getElem?_eq_some_iff.mp h1
  obtain ⟨l2, e2⟩ := List.getElem?_eq_some_iff.mp h2
  exact (List.getElem_inj nd).mp (e1.trans e2.symm)
/-- a cell changes -/
theorem RelS.put (r : RelS K CA H m S) {i : Nat} {a : Addr} {o : HO} {c : Cell} (ha : m[i]? = some a) (k : Step m H m (upd H a o)) (hc : CellRel K CA (upd H a o) m c a) : RelS K CA (upd H a o) m (S.set i c) := by
  refine ⟨r.nd, by simp [r.len], fun j c' b h1 h2 => ?_, r.from_.trans k⟩
  by_cases hj : j = i
  · subst hj
    rw [ha] at h2
    cases h2
    have hi : j < S.length := by rw [← r.len]; exact (List.getElem?_eq_some_iff.mp ha).1
    rw [List.getElem?_set_self hi] at h1
    cases h1
    exact hc
  · rw [List.getElem?_set_ne (Ne.symm hj)] at h1
    exact (r.at_ j c' b h1 h2).mono k (upd_ne fun z => hj (nodup_at r.nd h2 (z ▸ ha)))
/-- the same seen from another entry -/
theorem CellRel.of_at {CA' : ClsAt} (e : CA'.at_ = CA.at_) {c : Cell} {a : Addr} (h : CellRel K CA H m c a) : CellRel K CA' H m c a := by
  cases c with
  | lst xs => exact h
  | dct kvs => exact h
  | ins c fs =>
    obtain ⟨C, dx, l, h0, h1⟩ := h
    exact ⟨C, dx, l, by rw [e]; exact h0, h1⟩
theorem RelS.reb {CA' : ClsAt} (r : RelS K CA H m S) (e : CA'.at_ = CA.at_) (k : Step CA'.m0 CA'.H0 m H) : RelS K CA' H m S :=
  ⟨r.nd, r.len, fun i c a h1 h2 => (r.at_ i c a h1 h2).of_at e, k⟩
end
end TR
set_option Elab.async false
set_option linter.all false
set_option maxRecDepth 100000
set_option maxHeartbeats 2000000
/-! TR2: readings over trees and cells; expressions. -/
namespace TR
open PySem PySem.Spec L2

abbrev Wp := Ev → Sta → (T → Sta → Prop) → Prop
abbrev Wa := Ev → Sta → (List T → Sta → Prop) → Prop
abbrev Wt := Ev → Sta → (Bool → Sta → Prop) → Prop
def MonoW (w : Wp) : Prop := ∀ ρ S Q Q', (∀ t S', Q t S' → Q' t S') → w ρ S Q → w ρ S Q'
def MonoA (w : Wa) : Prop := ∀ ρ S Q Q', (∀ t S', Q t S' → Q' t S') → w ρ S Q → w ρ S Q'
def MonoT (w : Wt) : Prop := ∀ ρ S Q Q', (∀ t S', Q t S' → Q' t S') → w ρ S Q → w ρ S Q'

section
variable (K : PySem.W.Frag) (CA : ClsAt)
/-- what follows a value -/
def After (m : List Addr) (H : Hp) (Q : VK) (t : T) (S' : Sta) : Prop := ∀ m' H' v, Step m H m' H' → RelS K CA H' m' S' → RelT K H' m' t v → Q v H'
def lift (w : Wp) : TE := fun σ H Q => ∃ m ρ S, RelS K CA H m S ∧ RelE K H m ρ σ ∧ w ρ S (After K CA m H Q)
def liftA (w : Wa) : TA := fun σ H Q => ∃ m ρ S, RelS K CA H m S ∧ RelE K H m ρ σ ∧ w ρ S fun ts S' => ∀ m' H' vs, Step m H m' H' → RelS K CA H' m' S' → RelTs K H' m' ts vs → Q vs H'
def liftT (w : Wt) : TT := fun σ H Q => ∃ m ρ S, RelS K CA H m S ∧ RelE K H m ρ σ ∧ w ρ S fun b S' => ∀ m' H', Step m H m' H' → RelS K CA H' m' S' → Q b H'
end
section
variable {K : PySem.W.Frag} {CA : ClsAt} {m : List Addr} {ρ : Ev} {S : Sta} {σ : St} {H : Hp}
theorem lift_of {w : Wp} (mw : MonoW w) {k : T → Sta → Prop} {R : VK} (rs : RelS K CA H m S) (re : RelE K H m ρ σ) (hw : w ρ S k)
    (hk : ∀ t S' m' H' v, Step m H m' H' → RelS K CA H' m' S' → RelE K H' m' ρ σ → RelT K H' m' t v → k t S' → R v H') : lift K CA w σ H R :=
  ⟨m, ρ, S, rs, re, mw _ _ _ _ (fun t S' q m' H' v a c d => hk t S' m' H' v a c (re.mono a) d q) hw⟩
theorem liftA_of {w : Wa} (mw : MonoA w) {k : List T → Sta → Prop} {R : List V → Hp → Prop} (rs : RelS K CA H m S) (re : RelE K H m ρ σ) (hw : w ρ S k)
    (hk : ∀ t S' m' H' v, Step m H m' H' → RelS K CA H' m' S' → RelE K H' m' ρ σ → RelTs K H' m' t v → k t S' → R v H') : liftA K CA w σ H R :=
  ⟨m, ρ, S, rs, re, mw _ _ _ _ (fun t S' q m' H' v a c d => hk t S' m' H' v a c (re.mono a) d q) hw⟩
theorem liftT_of {w : Wt} (mw : MonoT w) {k : Bool → Sta → Prop} {R : Bool → Hp → Prop} (rs : RelS K CA H m S) (re : RelE K H m ρ σ) (hw : w ρ S k)
    (hk : ∀ b S' m' H', Step m H m' H' → RelS K CA H' m' S' → RelE K H' m' ρ σ → k b S' → R b H') : liftT K CA w σ H R :=
  ⟨m, ρ, S, rs, re, mw _ _ _ _ (fun b S' q m' H' a d => hk b S' m' H' a d (re.mono a) q) hw⟩
end
theorem PE.imp {X : Cx} {e : Expr} {t t' : TE} (h : PE X e t) (i : ∀ σ H Q, t' σ H Q → t σ H Q) : PE X e t' := ⟨fun pins s σ H Q I hq => h.run pins s σ H Q I (i σ H Q hq)⟩
theorem PT.imp {X : Cx} {e : Expr} {t t' : TT} (h : PT X e t) (i : ∀ σ H Q, t' σ H Q → t σ H Q) : PT X e t' := ⟨fun pins s σ H Q I hq => h.run pins s σ H Q I (i σ H Q hq)⟩
theorem PA.imp {X : Cx} {e : List Expr} {t t' : TA} (h : PA X e t) (i : ∀ σ H Q, t' σ H Q → t σ H Q) : PA X e t' := ⟨fun pos pins s σ H Q I hq => h.run pos pins s σ H Q I (i σ H Q hq)⟩
abbrev PX (X : Cx) (CA : ClsAt) (e : Expr) (w : Wp) : Prop := PE X e (lift X.K CA w)
abbrev PXA (X : Cx) (CA : ClsAt) (es : List Expr) (w : Wa) : Prop := PA X es (liftA X.K CA w)
abbrev PXT (X : Cx) (CA : ClsAt) (e : Expr) (w : Wt) : Prop := PT X e (liftT X.K CA w)

/-! ### names, constants -/
def wVar (i : Nat) : Wp := fun ρ S Q => ∃ t, ρ[i]? = some (some t) ∧ Q t S
def wC (t : T) : Wp := fun _ S Q => Q t S
theorem relE_get {K : PySem.W.Frag} {H : Hp} {m : List Addr} {ρ : Ev} {σ : St} (r : RelE K H m ρ σ) {i : Nat} {t : T} (e : ρ[i]? = some (some t)) : ∃ v, σ[i]? = some (some v) ∧ RelT K H m t v := by
  induction r generalizing i with
  | nil => simp at e
  | cons h _ ih =>
    cases i with
    | zero =>
      simp at e
      subst e
      rename_i b _ _ _
      cases b with
      | none => exact h.elim
      | some v => exact ⟨v, rfl, h⟩
    | succ i => exact ih (by simpa using e)
section
variable {X : Cx} {CA : ClsAt} {pos : Pos}
theorem px_var {i : Nat} {x : Str} (hN : X.N[i]? = some x) (hv : Vis X.env.scope x) (hd : (x == ("__debug__" : Str)) = false) (hcd : (x == ("__classdict__" : Str)) = false) : PX X CA (.Name x pos) (wVar i) :=
  PE.imp (pe_var hN hv hd hcd) fun σ H Q h => by
    obtain ⟨m, ρ, S, rs, re, t, e, q⟩ := h
    obtain ⟨v, h1, h2⟩ := relE_get re e
    exact ⟨v, h1, q m H v .rfl' rs h2⟩
theorem px_of_c {e : Expr} {v : V} {t : T} (h : PE X e (tC v)) (r : ∀ H m, RelT X.K H m t v) : PX X CA e (wC t) :=
  PE.imp h fun σ H Q h => by
    obtain ⟨m, ρ, S, rs, re, q⟩ := h
    exact q m H v .rfl' rs (r H m)
theorem px_int {i j} : PX X CA (.Constant (.int i) j pos) (wC (.int i)) := px_of_c pe_int fun _ _ => .int i
theorem px_bl {b j} : PX X CA (.Constant (.bool b) j pos) (wC (.bl b)) := px_of_c pe_bl fun _ _ => .bl b
theorem px_non {j} : PX X CA (.Constant .none j pos) (wC .non) := px_of_c pe_non fun _ _ => .non
theorem relT_str {K : PySem.W.Frag} {H : Hp} {m : List Addr} (x : Str) : RelT K H m (.str x.cps.toList) (.str x) := by
  have h : RelT K H m (.str x.cps.toList) (.str (mkS x.cps.toList)) := .str _
  rw [mkS_toList] at h
  exact h
theorem px_str {x : Str} {j} : PX X CA (.Constant (.str x) j pos) (wC (.str x.cps.toList)) := px_of_c pe_str fun _ _ => relT_str x

/-! ### argument lists, displays -/
def wNil : Wa := fun _ S Q => Q [] S
def wCons (w : Wp) (ws : Wa) : Wa := fun ρ S Q => w ρ S fun t S1 => ws ρ S1 fun ts S2 => Q (t :: ts) S2
theorem mono_nil : MonoA wNil := fun _ _ _ _ h q => h _ _ q
theorem mono_cons {w : Wp} {ws : Wa} (a : MonoW w) (b : MonoA ws) : MonoA (wCons w ws) := fun ρ S Q Q' h q => a _ _ _ _ (fun _ _ q => b _ _ _ _ (fun _ _ q => h _ _ q) q) q
theorem pxa_nil : PXA X CA [] wNil := PA.imp pa_nil fun σ H Q h => by
  obtain ⟨m, ρ, S, rs, re, q⟩ := h
  exact q m H [] .rfl' rs .nil
theorem pxa_cons {e : Expr} {es : List Expr} {w : Wp} {ws : Wa} (mw : MonoW w) (ms : MonoA ws) (h : PX X CA e w) (hs : PXA X CA es ws) (hst : starEach (e :: es) X.env = (false, eval e X.env) :: starEach es X.env) : PXA X CA (e :: es) (wCons w ws) :=
  PA.imp (pa_cons h hs hst) fun σ H Q q => by
    obtain ⟨m, ρ, S, rs, re, q⟩ := q
    refine lift_of mw rs re q fun t S1 m1 H1 v k1 rs1 re1 rt q => ?_
    refine liftA_of ms rs1 re1 q fun ts S2 m2 H2 vs k2 rs2 re2 rts q => ?_
    exact q m2 H2 (v :: vs) (k1.trans k2) rs2 (.cons (rt.mono k2) rts)
def wTup (ws : Wa) : Wp := fun ρ S Q => ws ρ S fun ts S' => ts.length ≤ sizeLine ∧ Q (.tup ts) S'
theorem mono_tup {ws : Wa} (a : MonoA ws) : MonoW (wTup ws) := fun ρ S Q Q' h q => a _ _ _ _ (fun _ _ q => ⟨q.1, h _ _ q.2⟩) q
theorem px_tup {es : List Expr} {k : Nat} {ws : Wa} (ms : MonoA ws) (h : PXA X CA es ws) : PX X CA (.Tuple es k pos) (wTup ws) :=
  PE.imp (pe_tup h) fun σ H Q q => by
    obtain ⟨m, ρ, S, rs, re, q⟩ := q
    refine liftA_of ms rs re q fun ts S1 m1 H1 vs k1 rs1 re1 rt q => ?_
    obtain ⟨hl, q⟩ := q
    refine ⟨by rw [← rt.length]; exact hl, fun p hp => ?_⟩
    have kn : Step m1 H1 m1 (upd H1 p (.tup vs)) := Step.new hp
    exact q m1 _ _ (k1.trans kn) (rs1.new hp) (.tup (SqT.of upd_same) (rt.mono kn))
def wLst (ws : Wa) : Wp := fun ρ S Q => ws ρ S fun ts S' => ts.length ≤ sizeLine ∧ Q (.obj S'.length) (S' ++ [.lst ts])
theorem mono_lst {ws : Wa} (a : MonoA ws) : MonoW (wLst ws) := fun ρ S Q Q' h q => a _ _ _ _ (fun _ _ q => ⟨q.1, h _ _ q.2⟩) q
theorem obj_new {K : PySem.W.Frag} {H : Hp} {m : List Addr} {S : Sta} {p : Addr} (hl : m.length = S.length) : RelT K H (m ++ [p]) (.obj S.length) (.ref p) := .obj (by rw [← hl]; simp)
theorem push_lst {K : PySem.W.Frag} {CA : ClsAt} {H : Hp} {m : List Addr} {S : Sta} {p : Addr} {ts : List T} {vs : List V} (rs : RelS K CA H m S) (hp : H p = none) (r : RelTs K H m ts vs) : RelS K CA (upd H p (.lst vs)) (m ++ [p]) (S ++ [.lst ts]) :=
  rs.push hp ⟨vs, upd_same, r.mono (Step.push hp)⟩
theorem px_lst {es : List Expr} {ws : Wa} (ms : MonoA ws) (h : PXA X CA es ws) : PX X CA (.List es pos) (wLst ws) :=
  PE.imp (pe_lst h) fun σ H Q q => by
    obtain ⟨m, ρ, S, rs, re, q⟩ := q
    refine liftA_of ms rs re q fun ts S1 m1 H1 vs k1 rs1 re1 rt q => ?_
    obtain ⟨hl, q⟩ := q
    refine ⟨by rw [← rt.length]; exact hl, fun p hp => ?_⟩
    exact q (m1 ++ [p]) _ _ (k1.trans (Step.push hp)) (push_lst rs1 hp rt) (obj_new rs1.len)
def wDict0 : Wp := fun ρ S Q => Q (.obj S.length) (S ++ [.dct []])
theorem px_dict0 : PX X CA (.Dict [] [] pos) wDict0 :=
  PE.imp pe_dnewK fun σ H Q q => by
    obtain ⟨m, ρ, S, rs, re, q⟩ := q
    intro p hp
    exact q (m ++ [p]) _ _ (Step.push hp) (rs.push hp ⟨[], upd_same, .nil⟩) (obj_new rs.len)
end
end TR
set_option Elab.async false
set_option linter.all false
set_option maxRecDepth 100000
set_option maxHeartbeats 2000000
/-! TH1: more of the machine: t += u of tuples, texts cut at a sign. -/
namespace TR
open PySem PySem.Spec L2
open PyProof.Rows hiding St

theorem noI_tuple_add : typeLookup (.type "tuple") (dunderI "add") = pure none := by rw [typeLookup_type, builtinLookup_eq_fast]; kernel_rfl
section
variable {prog : Program} {w : World} {A : Around} {E : Value → Shared → Prop} {s : Shared}
/-- tuple + tuple in place: what the addition itself tells -/
theorem itup {a b : Addr} {S : PySem.Spec} {Q : Value → Shared → Prop} (ha : s.TypeIs (.ref a) "tuple") (hb : s.TypeIs (.ref b) "tuple") (g : Meets (Builtin.«tuple.__add__» ⟨[.ref a, .ref b], []⟩) S) (h : S A (wants Q E) s) : wpAny (model prog w) A (inplaceOp .Add (.ref a) (.ref b)) Q E s :=
  PySem.wpAny_inplaceOp_concat ha hb noI_tuple_add noFill_tuple_add seq_tuple_add (PySem.call_meets PySem.F.slot_tuple_add ha PySem.F.entry_tuple_add (PySem.F.args_tuple_add_2 _ _) g h)
/-- a tuple's object, written out -/
theorem tupObj {h : Heap} {a : Addr} {its : Array Value} (t : IsTup h a its) : ∃ dd n sl, h.get? a = some { cls := .type "tuple", dict := dd, data := .seq its n, slots := sl } := by
  obtain ⟨o, e, c, n, d⟩ := t
  refine ⟨o.dict, n, o.slots, ?_⟩
  rw [e, ← c, ← d]
end
open HT in
theorem iop_catA {X : Cx} : OpR X (inplaceOp .Add) (rCatA X.K) := by
  intro pins s σ H x y v u Q I rx ry q
  obtain ⟨a, b, xs, ys, rfl, rfl, ta, tb, hz, q0, q1, q2⟩ := q
  cases rx
  cases ry
  obtain ⟨us, r1, t1, _⟩ := I.tuple ta
  obtain ⟨ws, r2, t2, _⟩ := I.tuple tb
  obtain ⟨d1, n1, s1, e1⟩ := tupObj t1
  obtain ⟨d2, n2, s2, e2⟩ := tupObj t2
  have k1 := t1.typeIs
  have k2 := t2.typeIs
  cases us with
  | nil =>
    cases r1
    exact itup k1 k2 (tuple_addW0 a b _ _ n1 n2 d1 d2 s1 s2 rfl) ⟨e1, e2, .ref b, H, I, rfl, q0 rfl⟩
  | cons u us =>
    have hx : xs ≠ [] := fun z => by rw [z] at r1; cases r1
    cases ws with
    | nil =>
      cases r2
      exact itup k1 k2 (tuple_addW1 a b (u :: us).toArray ([] : List Value).toArray n1 n2 d1 d2 s1 s2 (by simp) (by simp)) ⟨e1, e2, .ref a, H, I, rfl, q1 hx rfl⟩
    | cons w ws =>
      have hy : ys ≠ [] := fun z => by rw [z] at r2; cases r2
      have hz2 : (xs ++ ys).length ≤ sizeLine := by rw [List.length_append]; exact hz
      refine itup k1 k2 (tuple_addW2 a b (u :: us).toArray (w :: ws).toArray n1 n2 d1 d2 s1 s2 (by simp) (by simp) ?_) ⟨e1, e2, .ref s.heap.objs.size, _, I.laid (t' := s.toks) (o := .tup (xs ++ ys)) (fun p ob z => Heap.get?_push_of_some _ z) (Nat.le_refl _) ⟨hz2, (u :: us) ++ (w :: ws), r1.append r2, ?_⟩, rfl, q2 hx hy _ (I.hok.fresh (Nat.le_refl _))⟩
      · rw [List.size_toArray, List.size_toArray, ← r1.length, ← r2.length]
        exact hz
      · rw [← List.append_toArray]
        exact IsTup.new _ _

/-! ### texts cut at a sign -/
def splitC (c : Nat) : List Nat → List (List Nat)
  | [] => [[]]
  | x :: xs => if x = c then [] :: splitC c xs else match splitC c xs with
    | [] => [[x]]
    | p :: ps => (x :: p) :: ps
/-- parts with the sign between -/
def joinC (c : Nat) : List (List Nat) → List Nat
  | [] => []
  | [p] => p
  | p :: ps => p ++ c :: joinC c ps
theorem splitC_ne (c : Nat) : ∀ x, splitC c x ≠ []
  | [] => by simp [splitC]
  | x :: xs => by
    unfold splitC
    split
    · simp
    · split <;> simp
theorem splitC_app {c : Nat} : ∀ {p : List Nat} {r : List Nat} , c ∉ p → splitC c (p ++ c :: r) = p :: splitC c r
  | [], r, _ => by simp [splitC]
  | x :: p, r, h => by
    rw [List.mem_cons, not_or] at h
    have ih := splitC_app (r := r) h.2
    have e : splitC c (x :: (p ++ c :: r)) = (x :: p) :: splitC c r := by
      rw [splitC, if_neg (fun e => h.1 e.symm), ih]
    exact e
theorem splitC_one {c : Nat} : ∀ {p : List Nat}, c ∉ p → splitC c p = [p]
  | [], _ => rfl
  | x :: p, h => by
    rw [List.mem_cons, not_or] at h
    unfold splitC
    rw [if_neg (fun e => h.1 e.symm), splitC_one h.2]
theorem splitC_join {c : Nat} : ∀ {ps : List (List Nat)}, ps ≠ [] → (∀ p ∈ ps, c ∉ p) → splitC c (joinC c ps) = ps
  | [], h, _ => absurd rfl h
  | [p], _, h => splitC_one (h p List.mem_cons_self)
  | p :: q :: r, _, h => by
    show splitC c (p ++ c :: joinC c (q :: r)) = _
    rw [splitC_app (h p List.mem_cons_self), splitC_join (List.cons_ne_nil _ _) fun x hx => h x (List.mem_cons_of_mem _ hx)]
theorem strJoin_one (c : Nat) : ∀ ps : List Str, (Str.join (mkS [c]) ps).cps.toList = joinC c (ps.map fun p => p.cps.toList)
  | [] => rfl
  | [p] => rfl
  | p :: q :: r => by
    have ih := strJoin_one c (q :: r)
    show (p ++ mkS [c] ++ Str.join (mkS [c]) (q :: r)).cps.toList = p.cps.toList ++ c :: joinC c ((q :: r).map fun p => p.cps.toList)
    rw [← ih]
    show (p.cps ++ (mkS [c]).cps ++ (Str.join (mkS [c]) (q :: r)).cps).toList = _
    simp [mkS]
theorem txt_split (x : Str) (c : Nat) : (Txt.split x (mkS [c])).map (fun p => p.cps.toList) = splitC c x.cps.toList := by
  have h1 := StrLaws.join_split x (mkS [c])
  have h2 := StrLaws.split_free x c
  have e : (Str.join (mkS [c]) (Txt.split x (mkS [c]))).cps.toList = x.cps.toList := by rw [h1]
  rw [strJoin_one] at e
  rw [← e, splitC_join]
  · intro z
    have hp := split_pos x (mkS [c])
    have hl := congrArg List.length z
    rw [List.length_map, List.length_nil] at hl
    omega
  · intro p hp
    obtain ⟨q, hq, rfl⟩ := List.mem_map.mp hp
    exact h2 q hq
/-! ### xs[::-1], xs a list or a tuple -/
open HT in
section
variable {prog : Program} {w : World} {A : Around} {E : Value → Shared → Prop} {s : Shared}
theorem back_applied {sl : Addr} {vl vu vs : Value} {n : Nat} {Q : Int × Int × Nat → Shared → Prop} (hs : s.heap.IsSliceOf sl vl vu vs) (pl : IsPart vl none) (pu : IsPart vu none) (ps : IsPart vs (some (-1)))
    (h : Q ((n : Int) - 1, -1, n) s) : wpAny (model prog w) A (Builtin.Slice.sliceApplied (.ref sl) (pure (n : Int))) Q E s := by
  obtain ⟨os, hos, _, hds⟩ := id hs
  unfold Builtin.Slice.sliceApplied Builtin.Slice.sliceFields
  have fl : wpAny (model prog w) A (field (.ref sl) 0) (fun v s' => v = vl ∧ s' = s) E s := wpAny_field hos hds (x := vl) rfl ⟨rfl, rfl⟩
  have fu : wpAny (model prog w) A (field (.ref sl) 1) (fun v s' => v = vu ∧ s' = s) E s := wpAny_field hos hds (x := vu) rfl ⟨rfl, rfl⟩
  have fs : wpAny (model prog w) A (field (.ref sl) 2) (fun v s' => v = vs ∧ s' = s) E s := wpAny_field hos hds (x := vs) rfl ⟨rfl, rfl⟩
  refine wpAny_bind (wpAny_bind (wpAny_mono fl (fun v s' ⟨e1, e2⟩ => ?_) fun _ _ x => x))
  subst e1 e2
  refine wpAny_bind (wpAny_mono fu (fun v s' ⟨e1, e2⟩ => ?_) fun _ _ x => x)
  subst e1 e2
  refine wpAny_bind (wpAny_mono fs (fun v s' ⟨e1, e2⟩ => wpAny_pure ?_) fun _ _ x => x)
  subst e1 e2
  refine wpAny_bind (slicePart_ ps ?_)
  have nz : ¬ (((-1 : Int) == 0) = true) := by decide
  show wpAny _ _ (if ((-1 : Int) == 0) = true then _ else _) _ _ _
  rw [if_neg nz]
  refine wpAny_bind (slicePart_ pl (wpAny_bind (slicePart_ pu (wpAny_bind (wpAny_pure ?_)))))
  have places : Builtin.Slice.slicePlaces ((n : Int) - 1) (-1) (-1) = n := by
    unfold Builtin.Slice.slicePlaces
    by_cases z : n = 0
    · subst z; decide
    · have g : (n : Int) - 1 > -1 := by omega
      simp only [show ¬ ((-1 : Int) > 0) by decide, if_false, g, if_true]
      rw [show (- -1 : Int) = 1 by decide, Int.ediv_one]
      omega
  show wpAny _ _ (pure (((n : Int) - 1), (-1 : Int), Builtin.Slice.slicePlaces ((n : Int) - 1) (-1) (-1))) _ _ _
  rw [places]
  exact wpAny_pure h
theorem fm_same {α β : Type} {f g : α → Option β} : ∀ {l : List α}, (∀ x ∈ l, f x = g x) → l.filterMap f = l.filterMap g
  | [], _ => rfl
  | x :: l, h => by
    rw [List.filterMap_cons, List.filterMap_cons, h x List.mem_cons_self, fm_same fun y hy => h y (List.mem_cons_of_mem _ hy)]
theorem back_pick (xs : Array Value) : ((List.range xs.size).filterMap fun (k : Nat) => xs[(((xs.size : Int) - 1) + (k : Int) * (-1)).toNat]?).toArray = xs.toList.reverse.toArray := by
  rw [← PySem.W.krv_pick]
  unfold slicePick
  rw [PySem.W.krv_bounds]
  show _ = ((sliceRange ((xs.size : Int) - 1) (-1) (-1)).filterMap (xs[·]?)).toArray
  rw [PySem.W.krv_sliceRange, List.filterMap_map]
  congr 1
  refine fm_same fun k hk => ?_
  have := List.mem_range.mp hk
  have e : (((xs.size : Int) - 1) + (k : Int) * (-1)).toNat = xs.size - 1 - k := by omega
  show xs[(((xs.size : Int) - 1) + (k : Int) * (-1)).toNat]? = xs[xs.size - 1 - k]?
  rw [e]
theorem back_tuple {t sl : Addr} {items : Array Value} {vl vu vs : Value} {Q : Value → Shared → Prop} (ht : IsTup s.heap t items) (hs : s.heap.IsSliceOf sl vl vu vs) (pl : IsPart vl none) (pu : IsPart vu none) (ps : IsPart vs (some (-1))) (hsz : items.size ≤ sizeLine)
    (h : Q (.ref s.heap.objs.size) { s with heap := s.heap.push { cls := .type "tuple", data := .seq items.toList.reverse.toArray } }) : wpAny (model prog w) A (getItem (.ref t) (.ref sl)) Q E s := by
  have fits : sizeOk (.seq items.toList.reverse.toArray) := by
    show items.toList.reverse.toArray.size ≤ sizeLine
    rw [List.size_toArray, List.length_reverse, Array.length_toList]
    exact hsz
  have isSlice : s.TypeIs (.ref sl) "slice" := let ⟨os, hos, hcs, _⟩ := hs; ⟨os, hos, hcs⟩
  unfold getItem
  try with_reducible refine wpAny_holding ?_
  first | refine wpAny_bind (wpAny_pure ?_) | skip
  refine wpAny_bind (wpAny_sequenceKey ht.typeIs (by decide) ?_)
  refine wpAny_bind (wpAny_callSpecial?_slot (name := Str.ofString "__getitem__") ht.typeIs slot_tuple_getitem (wpAny_call_entry slot_tuple_getitem ht.typeIs entry_tuple_getitem ?_ (args_tuple_getitem _ _)))
  show wpAny _ _ (Builtin.Tuple.tupleItemsOf (.ref t) >>= _) _ _ s
  refine wpAny_bind (tupleItemsOf_ ht (wpAny_bind (wpAny_typeOf isSlice ?_)))
  rw [if_pos (by decide)]
  refine wpAny_bind (back_applied hs pl pu ps ?_)
  have no : ¬ ((((items.size : Int) - 1) == 0 && (-1 : Int) == 1 && items.size == items.size) = true) := by
    rw [show ((-1 : Int) == 1) = false from rfl, Bool.and_false, Bool.false_and]
    exact Bool.false_ne_true
  show wpAny _ _ (if (((items.size : Int) - 1) == 0 && (-1 : Int) == 1 && items.size == items.size) = true then _ else _) _ _ s
  rw [if_neg no, back_pick]
  exact wpAny_bind (m := Builtin.Tuple.tupleExact _) (wpAny_newObj_type (wpAny_pure ⟨_, rfl, wpAny_pure h⟩) fits)
end
section
variable {X : Cx}
def tBack (K : PySem.W.Frag) (te : TE) : TE := fun σ H Q => te σ H fun x H1 => ∃ a xs, x = .ref a ∧ ((SqL K H1 a xs ∧ ∀ p, H1 p = none → Q (.ref p) (upd H1 p (.lst xs.reverse))) ∨ (SqT K H1 a xs ∧ ∀ p, H1 p = none → Q (.ref p) (upd H1 p (.tup xs.reverse))))
theorem pe_back {e : Expr} {te : TE} {k : Nat} {p1 p2 p3 pos : Pos} (he : PE X e te) : PE X (.Subscript e (.Slice none none (some (.UnaryOp .USub (.Constant (.int 1) k p1) p2)) p3) pos) (tBack X.K te) := by
  constructor
  intro pins s σ H Q I h
  refine Subscript_ (thn (he.run pins s σ H _ I h) fun v s1 ⟨x, H1, I1, r1, a, xs, ex, q⟩ => ?_)
  subst ex
  cases r1
  have minus : PO X (some (.UnaryOp .USub (.Constant (.int 1) k p1) p2)) (tPart (tUn (rU fun i => .int (-i)) (tC (.int 1)))) := po_some (pe_un un_neg pe_int)
  refine wpAny_Slice (thn (po_none.run pins s1 σ H1 (fun o H2 => o = none ∧ H2 = H1) I1 ⟨rfl, rfl⟩) fun vl s2 ⟨o2, H2, I2, pl, e1, e2⟩ => ?_)
  subst e1 e2
  refine thn (po_none.run pins s2 σ _ (fun o H3 => o = none ∧ H3 = _) I2 ⟨rfl, rfl⟩) fun vu s3 ⟨o3, H3, I3, pu, e1, e2⟩ => ?_
  subst e1 e2
  refine thn (minus.run pins s3 σ _ (fun o H4 => o = some (-1) ∧ H4 = _) I3 ⟨1, rfl, -1, rfl, rfl, rfl⟩) fun vs s4 ⟨o4, H4, I4, ps, e1, e2⟩ => ?_
  subst e1 e2
  have I5 : L2.Inv X pins σ H4 { s4 with heap := s4.heap.push { cls := .type "slice", data := .fields #[vl, vu, vs] } } := I4.kept (t' := s4.toks) fun b ob q => Heap.get?_push_of_some _ q
  show wpAny (model X.prog X.w) X.A (subscriptTail e (.Slice none none (some (.UnaryOp .USub (.Constant (.int 1) k p1) p2)) p3) (.ref a) (.ref s4.heap.objs.size)) (EP X pins σ Q) X.xe { s4 with heap := s4.heap.push { cls := .type "slice", data := .fields #[vl, vu, vs] } }
  rcases q with ⟨hx, q⟩ | ⟨hx, q⟩
  · obtain ⟨its, r, ht, hz⟩ := I5.list hx
    have hlen := r.length
    refine tail_any (ops := [.ref a, .ref s4.heap.objs.size]) ht.isList.typeIs PySem.slot_list_getitem.lookup ?_ (by with_unfolding_all rfl)
    refine wpAny_getItem_list_slice ht.isList (Heap.IsSliceOf.new _ vl vu vs) pl pu ps (by decide) ?_ (by rw [List.size_toArray]; omega)
    rw [PySem.W.krv_pick]
    exact ⟨.ref _, _, I5.laid (t' := s4.toks) (o := .lst xs.reverse) (fun b ob q => Heap.get?_push_of_some _ q) (Nat.le_refl _) ⟨by rw [List.length_reverse]; exact hz, _, 0, r.reverse, Heap.get?_push_size _ rfl⟩, rfl, q _ (I5.hok.fresh (Nat.le_refl _))⟩
  · obtain ⟨its, r, ht, hz⟩ := I5.tuple hx
    have hlen := r.length
    refine tail_any (ops := [.ref a, .ref s4.heap.objs.size]) ht.typeIs PyProof.Rows.slot_tuple_getitem.lookup ?_ (by with_unfolding_all rfl)
    refine back_tuple ht (Heap.IsSliceOf.new _ vl vu vs) pl pu ps (by rw [List.size_toArray]; omega) ?_
    exact ⟨.ref _, _, I5.laid (t' := s4.toks) (o := .tup xs.reverse) (fun b ob q => Heap.get?_push_of_some _ q) (Nat.le_refl _) ⟨by rw [List.length_reverse]; exact hz, _, r.reverse, IsTup.new _ _⟩, rfl, q _ (I5.hok.fresh (Nat.le_refl _))⟩
end
end TR
set_option Elab.async false
set_option linter.all false
set_option maxRecDepth 100000
set_option maxHeartbeats 2000000
/-! TR3: operators, comparisons, tests over trees. -/
namespace TR
open PySem PySem.Spec L2

/-! ### ground trees as data -/
mutual
def toD : T → PyData
  | .non => .none
  | .bl b => .bool b
  | .int i => .int i
  | .str x => .str (mkS x)
  | .tup xs => .tuple (toDs xs)
  | .frz _ => .none
  | .obj _ => .none
def toDs : List T → List PyData
  | [] => []
  | t :: ts => toD t :: toDs ts
end
mutual
def gr : T → Bool
  | .tup xs => grs xs
  | .frz _ => false
  | .obj _ => false
  | .non => true
  | .bl _ => true
  | .int _ => true
  | .str x => x.all fun c => decide (c < 0x110000)
def grs : List T → Bool
  | [] => true
  | t :: ts => gr t && grs ts
end
mutual
def dep : T → Nat
  | .tup xs => deps xs + 1
  | .non => 0
  | .bl _ => 0
  | .int _ => 0
  | .str _ => 0
  | .frz _ => 0
  | .obj _ => 0
def deps : List T → Nat
  | [] => 0
  | t :: ts => max (dep t) (deps ts)
end
mutual
theorem toD_lay : ∀ t : T, gr t = true → (toD t).canLay0 = true
  | .non, _ => rfl
  | .bl _, _ => rfl
  | .int _, _ => rfl
  | .str x, h => by
    simp only [toD, PyData.canLay0, PyData.strOk, mkS]
    simpa [gr] using h
  | .tup xs, h => by simp only [toD, PyData.canLay0]; exact toDs_lay xs (by simpa [gr] using h)
  | .frz _, _ => rfl
  | .obj _, _ => rfl
theorem toDs_lay : ∀ ts : List T, grs ts = true → PyData.canLayAll0 (toDs ts) = true
  | [], _ => by simp [toDs, PyData.canLayAll0]
  | t :: ts, h => by
    simp only [grs, Bool.and_eq_true] at h
    simp only [toDs, PyData.canLayAll0, toD_lay t h.1, toDs_lay ts h.2, Bool.and_self]
end
mutual
theorem toD_dep : ∀ t : T, (toD t).depth = dep t
  | .non => by simp [toD, dep, PyData.depth]
  | .bl _ => by simp [toD, dep, PyData.depth]
  | .int _ => by simp [toD, dep, PyData.depth]
  | .str _ => by simp [toD, dep, PyData.depth]
  | .tup xs => by simp only [toD, dep, PyData.depth, toDs_dep xs]
  | .frz _ => by simp [toD, dep, PyData.depth]
  | .obj _ => by simp [toD, dep, PyData.depth]
theorem toDs_dep : ∀ ts : List T, PyData.depthAll (toDs ts) = deps ts
  | [] => by simp [toDs, deps, PyData.depthAll]
  | t :: ts => by simp only [toDs, deps, PyData.depthAll, toD_dep t, toDs_dep ts]
end
mutual
theorem RelT.dp {K : PySem.W.Frag} {H : Hp} {m : List Addr} : ∀ {t : T} {v : V}, RelT K H m t v → gr t = true → Dp K H v (toD t)
  | _, _, .non, _ => .non
  | _, _, .bl b, _ => .bl b
  | _, _, .int i, _ => .int i
  | _, _, .str x, _ => .str _
  | _, _, .tup h r, g => .tup h (RelTs.dp r (by simpa [gr] using g))
  | _, _, .frz _ _, g => by simp [gr] at g
  | _, _, .obj _, g => by simp [gr] at g
theorem RelTs.dp {K : PySem.W.Frag} {H : Hp} {m : List Addr} : ∀ {ts : List T} {vs : List V}, RelTs K H m ts vs → grs ts = true → DpAll K H vs (toDs ts)
  | _, _, .nil, _ => .nil
  | _, _, .cons h r, g => by
    simp only [grs, Bool.and_eq_true] at g
    exact .cons (RelT.dp h g.1) (RelTs.dp r g.2)
end
def teq (x y : T) : Bool := PyData.eqv (toD x) (toD y)
def teqs (x y : List T) : Bool := PyData.eqvAll (toDs x) (toDs y)
/-- data: a ground tree, a list of such -/
def cellD : Option Cell → Option PyData
  | some (.lst xs) => bif grs xs then some (.list (toDs xs)) else none
  | _ => none
def toDS (S : Sta) : T → Option PyData
  | .obj i => cellD S[i]?
  | t => bif gr t then some (toD t) else none
theorem bif_some {c : Bool} {d e : PyData} (h : (bif c then some d else none) = some e) : c = true ∧ d = e := by
  cases c with
  | true => exact ⟨rfl, Option.some.inj h⟩
  | false => cases h
theorem cellD_of {o : Option Cell} {d : PyData} (h : cellD o = some d) : ∃ xs, o = some (.lst xs) ∧ grs xs = true ∧ d = .list (toDs xs) := by
  cases o with
  | none => cases h
  | some c =>
    cases c with
    | lst xs =>
      obtain ⟨h1, h2⟩ := bif_some h
      exact ⟨xs, rfl, h1, h2.symm⟩
    | dct _ => cases h
    | ins _ _ => cases h
theorem toDS_of {S : Sta} {t : T} {d : PyData} (h : toDS S t = some d) : (gr t = true ∧ d = toD t) ∨ ∃ i xs, t = .obj i ∧ S[i]? = some (.lst xs) ∧ grs xs = true ∧ d = .list (toDs xs) := by
  have base : (bif gr t then some (toD t) else none) = some d → gr t = true ∧ d = toD t := fun h => let ⟨h1, h2⟩ := bif_some h; ⟨h1, h2.symm⟩
  cases t with
  | obj i =>
    obtain ⟨xs, h1, h2, h3⟩ := cellD_of h
    exact .inr ⟨i, xs, rfl, h1, h2, h3⟩
  | _ => exact .inl (base h)
theorem toDS_lay {S : Sta} {t : T} {d : PyData} (h : toDS S t = some d) : d.canLay0 = true := by
  rcases toDS_of h with ⟨g, rfl⟩ | ⟨_, xs, _, _, g, rfl⟩
  · exact toD_lay _ g
  · simp only [PyData.canLay0]
    exact toDs_lay _ g
theorem toDS_dp {K : PySem.W.Frag} {CA : ClsAt} {H : Hp} {m : List Addr} {S : Sta} {t : T} {v : V} {d : PyData} (rs : RelS K CA H m S) (r : RelT K H m t v) (h : toDS S t = some d) : Dp K H v d := by
  rcases toDS_of h with ⟨g, rfl⟩ | ⟨i, xs, rfl, e, g, rfl⟩
  · exact r.dp g
  · cases r with
    | obj hm =>
      obtain ⟨a, h1, vs, h2, h3⟩ := rs.get e
      rw [hm] at h1
      cases h1
      exact .lst (SqL.of h2) (h3.dp g)

/-! ### binary operators -/
def binop (op : Operator) (x y : T) (S : Sta) (Q : T → Sta → Prop) : Prop :=
  match op, x, y with
  | .Add, .int i, .int j => Q (.int (i + j)) S
  | .Add, .str a, .str b => a.length + b.length ≤ sizeLine ∧ Q (.str (a ++ b)) S
  | .Add, .tup a, .tup b => a.length + b.length ≤ sizeLine ∧ Q (.tup (a ++ b)) S
  | .Add, .obj i, .obj j => ∃ a b, S[i]? = some (.lst a) ∧ S[j]? = some (.lst b) ∧ a.length + b.length ≤ sizeLine ∧ Q (.obj S.length) (S ++ [.lst (a ++ b)])
  | .Sub, .int i, .int j => Q (.int (i - j)) S
  | .Mult, .int i, .int j => CMul i j ∧ Q (.int (i * j)) S
  | .FloorDiv, .int i, .int j => CDiv i j ∧ Q (.int (i / j)) S
  | .Mod, .int i, .int j => 0 < j ∧ Q (.int (i % j)) S
  | .Pow, .int i, .int j => CPow i j ∧ Q (.int (i ^ j.toNat)) S
  | _, _, _ => False
theorem binop_mono {op : Operator} {x y : T} {S : Sta} {Q Q' : T → Sta → Prop} (h : ∀ t S', Q t S' → Q' t S') (q : binop op x y S Q) : binop op x y S Q' := by
  unfold binop at q ⊢
  split <;> simp only at q
  · exact h _ _ q
  · exact ⟨q.1, h _ _ q.2⟩
  · exact ⟨q.1, h _ _ q.2⟩
  · obtain ⟨a, b, h1, h2, h3, q⟩ := q
    exact ⟨a, b, h1, h2, h3, h _ _ q⟩
  · exact h _ _ q
  · exact ⟨q.1, h _ _ q.2⟩
  · exact ⟨q.1, h _ _ q.2⟩
  · exact ⟨q.1, h _ _ q.2⟩
  · exact ⟨q.1, h _ _ q.2⟩
/-- what an operator does by values, when related -/
def OpW (X : Cx) (CA : ClsAt) (f : Value → Value → Sem Value) (g : T → T → Sta → (T → Sta → Prop) → Prop) : Prop :=
  OpR X f fun v u H Q => ∃ m S x y, RelS X.K CA H m S ∧ RelT X.K H m x v ∧ RelT X.K H m y u ∧ g x y S (After X.K CA m H Q)
section
variable {X : Cx} {CA : ClsAt}
theorem mkS_append (a b : List Nat) : mkS a ++ mkS b = mkS (a ++ b) := by
  show Str.append (mkS a) (mkS b) = _
  simp [Str.append, mkS]
theorem opw_bin (op : Operator) : OpW X CA (binaryOp op) (binop op) := by
  intro pins s σ H x y v u Q I rx ry h
  obtain ⟨m, S, tx, ty, rs, r1, r2, h⟩ := h
  have nil : ∀ {v : V} {t : T}, RelT X.K H m t v → After X.K CA m H Q t S → Q v H := fun r q => q m H _ .rfl' rs r
  unfold binop at h
  split at h
  · cases r1; cases r2
    exact op_add pins s σ H _ _ v u Q I rx ry ⟨_, _, rfl, rfl, nil (.int _) h⟩
  · cases r1; cases r2
    exact op_add_str pins s σ H _ _ v u Q I rx ry ⟨_, _, rfl, rfl, by rw [mkS_len, mkS_len]; exact h.1, by rw [mkS_append]; exact nil (.str _) h.2⟩
  · cases r1 with
    | tup ha ra =>
      cases r2 with
      | tup hb rb =>
        obtain ⟨hl, h⟩ := h
        refine op_catA pins s σ H _ _ v u Q I rx ry ⟨_, _, _, _, rfl, rfl, ha, hb, by rw [← ra.length, ← rb.length]; exact hl, fun e => ?_, fun _ e => ?_, fun _ _ p hp => ?_⟩
        · subst e
          cases ra
          exact nil (.tup hb rb) h
        · subst e
          cases rb
          rw [List.append_nil] at h
          exact nil (.tup ha ra) h
        · exact h m _ _ (Step.new hp) (rs.new hp) (.tup (SqT.of upd_same) ((ra.append rb).mono (Step.new hp)))
  · cases r1 with
    | obj ha =>
      cases r2 with
      | obj hb =>
        obtain ⟨xs, ys, e1, e2, hl, h⟩ := h
        obtain ⟨a', e3, vs, e4, r4⟩ := rs.get e1
        obtain ⟨b', e5, us, e6, r6⟩ := rs.get e2
        rw [ha] at e3; cases e3
        rw [hb] at e5; cases e5
        refine op_cat pins s σ H _ _ v u Q I rx ry ⟨_, _, _, _, rfl, rfl, e4, e6, by rw [← r4.length, ← r6.length]; exact hl, fun p hp => ?_⟩
        exact h (m ++ [p]) _ _ (Step.push hp) (push_lst rs hp (r4.append r6)) (obj_new rs.len)
  · cases r1; cases r2
    exact op_sub pins s σ H _ _ v u Q I rx ry ⟨_, _, rfl, rfl, nil (.int _) h⟩
  · cases r1; cases r2
    exact op_mul pins s σ H _ _ v u Q I rx ry ⟨_, _, rfl, rfl, h.1, nil (.int _) h.2⟩
  · cases r1; cases r2
    exact op_fdiv pins s σ H _ _ v u Q I rx ry ⟨_, _, rfl, rfl, h.1, nil (.int _) h.2⟩
  · cases r1; cases r2
    exact op_mod pins s σ H _ _ v u Q I rx ry ⟨_, _, rfl, rfl, h.1, nil (.int _) h.2⟩
  · cases r1; cases r2
    exact op_pow pins s σ H _ _ v u Q I rx ry ⟨_, _, rfl, rfl, h.1, nil (.int _) h.2⟩
  · exact h.elim
end
/-- x += y, of no lists -/
def augW (x y : T) (S : Sta) (Q : T → Sta → Prop) : Prop :=
  match x, y with
  | .int i, .int j => Q (.int (i + j)) S
  | .str a, .str b => a.length + b.length ≤ sizeLine ∧ Q (.str (a ++ b)) S
  | .tup a, .tup b => a.length + b.length ≤ sizeLine ∧ Q (.tup (a ++ b)) S
  | _, _ => False
theorem augW_mono {x y : T} {S : Sta} {Q Q' : T → Sta → Prop} (h : ∀ t S', Q t S' → Q' t S') (q : augW x y S Q) : augW x y S Q' := by
  unfold augW at q ⊢
  split <;> simp only at q
  · exact h _ _ q
  · exact ⟨q.1, h _ _ q.2⟩
  · exact ⟨q.1, h _ _ q.2⟩
section
variable {X : Cx} {CA : ClsAt}
theorem opw_aug : OpW X CA (inplaceOp .Add) augW := by
  intro pins s σ H x y v u Q I rx ry h
  obtain ⟨m, S, tx, ty, rs, r1, r2, h⟩ := h
  have nil : ∀ {v : V} {t : T}, RelT X.K H m t v → After X.K CA m H Q t S → Q v H := fun r q => q m H _ .rfl' rs r
  unfold augW at h
  split at h
  · cases r1; cases r2
    exact iop_add pins s σ H _ _ v u Q I rx ry ⟨_, _, rfl, rfl, nil (.int _) h⟩
  · cases r1; cases r2
    exact iop_add_str pins s σ H _ _ v u Q I rx ry ⟨_, _, rfl, rfl, by rw [mkS_len, mkS_len]; exact h.1, by rw [mkS_append]; exact nil (.str _) h.2⟩
  · cases r1 with
    | tup ha ra =>
      cases r2 with
      | tup hb rb =>
        obtain ⟨hl, h⟩ := h
        refine iop_catA pins s σ H _ _ v u Q I rx ry ⟨_, _, _, _, rfl, rfl, ha, hb, by rw [← ra.length, ← rb.length]; exact hl, fun e => ?_, fun _ e => ?_, fun _ _ p hp => ?_⟩
        · subst e
          cases ra
          exact nil (.tup hb rb) h
        · subst e
          cases rb
          rw [List.append_nil] at h
          exact nil (.tup ha ra) h
        · exact h m _ _ (Step.new hp) (rs.new hp) (.tup (SqT.of upd_same) ((ra.append rb).mono (Step.new hp)))
  · exact h.elim
end
/-- two operands -/
def wOp (g : T → T → Sta → (T → Sta → Prop) → Prop) (wa wb : Wp) : Wp := fun ρ S Q => wa ρ S fun x S1 => wb ρ S1 fun y S2 => g x y S2 Q
theorem mono_op {g : T → T → Sta → (T → Sta → Prop) → Prop} {wa wb : Wp} (hg : ∀ x y S Q Q', (∀ t S', Q t S' → Q' t S') → g x y S Q → g x y S Q') (a : MonoW wa) (b : MonoW wb) : MonoW (wOp g wa wb) :=
  fun ρ S Q Q' h q => a _ _ _ _ (fun _ _ q => b _ _ _ _ (fun _ _ q => hg _ _ _ _ _ h q) q) q
section
variable {X : Cx} {CA : ClsAt} {pos : Pos} {a b : Expr} {wa wb : Wp}
theorem tOp_of {g : T → T → Sta → (T → Sta → Prop) → Prop} (hg : ∀ x y S Q Q', (∀ t S', Q t S' → Q' t S') → g x y S Q → g x y S Q') (ma : MonoW wa) (mb : MonoW wb) {σ : St} {H : Hp} {Q : VK} (h : lift X.K CA (wOp g wa wb) σ H Q) :
    tOp (fun v u H Q => ∃ m S x y, RelS X.K CA H m S ∧ RelT X.K H m x v ∧ RelT X.K H m y u ∧ g x y S (After X.K CA m H Q)) (lift X.K CA wa) (lift X.K CA wb) σ H Q := by
  obtain ⟨m, ρ, S, rs, re, q⟩ := h
  refine lift_of ma rs re q fun x S1 m1 H1 v k1 rs1 re1 rx q => ?_
  refine lift_of mb rs1 re1 q fun y S2 m2 H2 u k2 rs2 re2 ry q => ?_
  exact ⟨m2, S2, x, y, rs2, rx.mono k2, ry, hg _ _ _ _ _ (fun t S' q m' H' v' k3 rs3 rt => q m' H' v' ((k1.trans k2).trans k3) rs3 rt) q⟩
theorem px_bin {op : Operator} (ma : MonoW wa) (mb : MonoW wb) (ha : PX X CA a wa) (hb : PX X CA b wb) : PX X CA (.BinOp a op b pos) (wOp (binop op) wa wb) :=
  PE.imp (pe_op (opw_bin (CA := CA) op) ha hb) fun σ H Q q => tOp_of (g := binop op) (fun _ _ _ _ _ h q => binop_mono h q) ma mb q
end

/-! ### comparisons -/
def keyEq : T → T → Bool
  | .str x, .str y => decide (x = y)
  | .int i, .int j => decide (i = j)
  | _, _ => false
def dget (kvs : List (T × T)) (x : T) : Option T := (kvs.find? fun p => keyEq p.1 x).map (·.2)
def isKey : T → Bool
  | .str _ => true
  | .int _ => true
  | _ => false
/-- x == y, as far as it is looked at -/
def eqW (x y : T) (S : Sta) (Q : Bool → Prop) : Prop :=
  match x, y with
  | .str a, .str b => Q (decide (a = b))
  | .int i, .int j => Q (decide (i = j))
  | .tup [], .tup b => Q b.isEmpty
  | .tup a, .tup [] => Q a.isEmpty
  | x, y => ∃ d e, toDS S x = some d ∧ toDS S y = some e ∧ min d.depth e.depth ≤ 100 ∧ Q (PyData.eqv d e)
def neW (x y : T) (S : Sta) (Q : Bool → Prop) : Prop :=
  match x, y with
  | .str a, .str b => Q (!decide (a = b))
  | .int i, .int j => Q (!decide (i = j))
  | x, y => ∃ d e, toDS S x = some d ∧ toDS S y = some e ∧ min d.depth e.depth ≤ 100 ∧ Q (!PyData.eqv d e)
/-- x in y -/
def inW (x y : T) (S : Sta) (Q : Bool → Prop) : Prop :=
  match x, y with
  | .str [c], .str z => Q (decide (c ∈ z))
  | x, .tup ys => gr x = true ∧ grs ys = true ∧ min (deps ys) (dep x) ≤ 100 ∧ Q (ys.any fun y => teq y x)
  | x, .obj i => match S[i]? with
    | some (.lst ys) => gr x = true ∧ grs ys = true ∧ min (deps ys) (dep x) ≤ 100 ∧ Q (ys.any fun y => teq y x)
    | some (.dct kvs) => isKey x = true ∧ Q (dget kvs x).isSome
    | _ => False
  | _, _ => False
def isNon : T → Bool
  | .non => true
  | _ => false
def cmpW (op : CmpOp) (x y : T) (S : Sta) (Q : Bool → Prop) : Prop :=
  match op with
  | .Eq => eqW x y S Q
  | .NotEq => neW x y S Q
  | .In => inW x y S Q
  | .NotIn => inW x y S fun b => Q (!b)
  | .Is => isNon y = true ∧ Q (isNon x)
  | .IsNot => isNon y = true ∧ Q (!isNon x)
  | .Lt => match x, y with
    | .int i, .int j => Q (decide (i < j))
    | _, _ => False
  | .LtE => match x, y with
    | .int i, .int j => Q (decide (i ≤ j))
    | _, _ => False
  | .Gt => match x, y with
    | .int i, .int j => Q (decide (j < i))
    | _, _ => False
  | .GtE => match x, y with
    | .int i, .int j => Q (decide (j ≤ i))
    | _, _ => False
theorem inW_mono {x y : T} {S : Sta} {Q Q' : Bool → Prop} (h : ∀ b, Q b → Q' b) (q : inW x y S Q) : inW x y S Q' := by
  unfold inW at q ⊢
  split <;> simp only at q
  · exact h _ q
  · exact ⟨q.1, q.2.1, q.2.2.1, h _ q.2.2.2⟩
  · split <;> rename_i e <;> simp only [e] at q
    · exact ⟨q.1, q.2.1, q.2.2.1, h _ q.2.2.2⟩
    · exact ⟨q.1, h _ q.2⟩
theorem cmpW_mono {op : CmpOp} {x y : T} {S : Sta} {Q Q' : Bool → Prop} (h : ∀ b, Q b → Q' b) (q : cmpW op x y S Q) : cmpW op x y S Q' := by
  unfold cmpW at q ⊢
  cases op <;> simp only at q ⊢
  · unfold eqW at q ⊢
    split <;> simp only at q
    · exact h _ q
    · exact h _ q
    · exact h _ q
    · exact h _ q
    · obtain ⟨d, e, h1, h2, h3, q⟩ := q
      exact ⟨d, e, h1, h2, h3, h _ q⟩
  · unfold neW at q ⊢
    split <;> simp only at q
    · exact h _ q
    · exact h _ q
    · obtain ⟨d, e, h1, h2, h3, q⟩ := q
      exact ⟨d, e, h1, h2, h3, h _ q⟩
  · split <;> simp only at q
    exact h _ q
  · split <;> simp only at q
    exact h _ q
  · split <;> simp only at q
    exact h _ q
  · split <;> simp only at q
    exact h _ q
  · exact ⟨q.1, h _ q.2⟩
  · exact ⟨q.1, h _ q.2⟩
  · exact inW_mono h q
  · exact inW_mono (fun b q => h _ q) q
end TR
set_option Elab.async false
set_option linter.all false
set_option maxRecDepth 100000
set_option maxHeartbeats 2000000
/-! TR4: comparisons, truth, and, or, not, if over trees. -/
namespace TR
open PySem PySem.Spec L2

def cmpG (op : CmpOp) (x y : T) (S : Sta) (Q : T → Sta → Prop) : Prop := cmpW op x y S fun b => Q (.bl b) S
theorem cmpG_mono {op : CmpOp} : ∀ x y S Q Q', (∀ t S', Q t S' → Q' t S') → cmpG op x y S Q → cmpG op x y S Q' := fun _ _ _ _ _ h q => cmpW_mono (fun _ q => h _ _ q) q

section
variable {X : Cx} {CA : ClsAt}
theorem units_ok {d e : Nat} (hu : X.A.units + 110 < cLine) (h : min d e ≤ 100) : X.A.units + min d e < cLine := by omega
theorem mkS_eq (a b : List Nat) : decide (V.str (mkS a) = V.str (mkS b)) = decide (a = b) := by
  by_cases h : a = b
  · subst h; simp
  · rw [decide_eq_false h, decide_eq_false]
    intro z
    injection z with z
    exact h (mkS_inj z)
theorem int_eq (a b : Int) : decide (V.int a = V.int b) = decide (a = b) := by
  by_cases h : a = b
  · subst h; simp
  · rw [decide_eq_false h, decide_eq_false]
    intro z
    injection z with z
    exact h z
/-- two tuples, one of them empty -/
theorem eq_empty {pins : List (Addr × Obj)} {s : Shared} {σ : St} {H : Hp} {a b : Addr} {xs ys : List V} {Q : VK} (hu : X.A.units + 110 < cLine) (I : L2.Inv X pins σ H s) (ha : SqT X.K H a xs) (hb : SqT X.K H b ys) (e : xs = [] ∨ ys = []) (q : Q (.bl (xs.isEmpty && ys.isEmpty)) H) :
    wpAny (model X.prog X.w) X.A (compareOp .Eq (.ref a) (.ref b)) (EP X pins σ Q) X.xe s := by
  obtain ⟨its, rv, ht, _⟩ := I.tuple ha
  obtain ⟨its2, rv2, ht2, _⟩ := I.tuple hb
  refine SeqAt.eq_tupleAt (e := fun _ => true) ht ht2 (by omega) (fun j h1 h2 => ?_) ⟨.bl (xs.isEmpty && ys.isEmpty), H, I, ?_, q⟩
  · exfalso
    rcases e with e | e
    · subst e
      cases rv
      exact absurd h1 (by simp)
    · subst e
      cases rv2
      exact absurd h2 (by simp)
  · show Value.bool _ = Value.bool _
    have l1 := rv.length
    have l2 := rv2.length
    congr 1
    rcases e with e | e
    · subst e
      have : its.length = 0 := by simpa using l1.symm
      cases ys with
      | nil => simp at l2; simp [this, ← l2]
      | cons y ys => simp at l2; simp [this, ← l2]
    · subst e
      have : its2.length = 0 := by simpa using l2.symm
      cases xs with
      | nil => simp at l1; simp [this, ← l1]
      | cons y ys => simp at l1; simp [this, ← l1]
theorem opw_eq (hu : X.A.units + 110 < cLine) : OpW X CA (compareOp .Eq) (cmpG .Eq) := by
  intro pins s σ H x y v u Q I rx ry h
  obtain ⟨m, S, tx, ty, rs, r1, r2, h⟩ := h
  have nil : ∀ {b : Bool}, After X.K CA m H Q (.bl b) S → Q (.bl b) H := fun q => q m H _ .rfl' rs (.bl _)
  have h : eqW tx ty S fun b => After X.K CA m H Q (.bl b) S := h
  unfold eqW at h
  split at h
  · cases r1; cases r2
    exact op_eq pins s σ H _ _ v u Q I rx ry ⟨rfl, by rw [mkS_eq]; exact nil h⟩
  · cases r1; cases r2
    exact op_eq pins s σ H _ _ v u Q I rx ry ⟨rfl, by rw [int_eq]; exact nil h⟩
  · cases r1 with
    | tup ha ra =>
      cases r2 with
      | tup hb rb =>
        cases rx; cases ry; cases ra
        refine eq_empty hu I ha hb (.inl rfl) ?_
        cases rb <;> exact nil h
  · cases r1 with
    | tup ha ra =>
      cases r2 with
      | tup hb rb =>
        cases rx; cases ry; cases rb
        refine eq_empty hu I ha hb (.inr rfl) ?_
        cases ra <;> exact nil h
  · obtain ⟨d, e, h1, h2, h3, q⟩ := h
    obtain ⟨as, q1⟩ := Dp.reads I d x v (toDS_dp rs r1 h1) rx
    obtain ⟨bs, q2⟩ := Dp.reads I e y u (toDS_dp rs r2 h2) ry
    exact SeqAt.compareEq_reads q1 q2 (toDS_lay h1) (toDS_lay h2) (units_ok hu h3) ⟨.bl _, H, I, rfl, nil q⟩
theorem opw_ne (hu : X.A.units + 110 < cLine) : OpW X CA (compareOp .NotEq) (cmpG .NotEq) := by
  intro pins s σ H x y v u Q I rx ry h
  obtain ⟨m, S, tx, ty, rs, r1, r2, h⟩ := h
  have nil : ∀ {b : Bool}, After X.K CA m H Q (.bl b) S → Q (.bl b) H := fun q => q m H _ .rfl' rs (.bl _)
  have h : neW tx ty S fun b => After X.K CA m H Q (.bl b) S := h
  unfold neW at h
  split at h
  · cases r1; cases r2
    exact op_ne pins s σ H _ _ v u Q I rx ry ⟨rfl, by rw [mkS_eq]; exact nil h⟩
  · cases r1; cases r2
    exact op_ne pins s σ H _ _ v u Q I rx ry ⟨rfl, by rw [int_eq]; exact nil h⟩
  · obtain ⟨d, e, h1, h2, h3, q⟩ := h
    obtain ⟨as, q1⟩ := Dp.reads I d x v (toDS_dp rs r1 h1) rx
    obtain ⟨bs, q2⟩ := Dp.reads I e y u (toDS_dp rs r2 h2) ry
    exact SeqAt.compareNe_reads q1 q2 (toDS_lay h1) (toDS_lay h2) (units_ok hu h3) ⟨.bl _, H, I, rfl, nil q⟩

theorem any_toDs (x : T) : ∀ ys : List T, (toDs ys).any (fun y => PyData.eqv y (toD x)) = ys.any fun y => teq y x
  | [] => rfl
  | y :: ys => by simp only [toDs, List.any_cons, any_toDs x ys, teq]
/-- dict entries, related -/
abbrev RelD (K : PySem.W.Frag) (H : Hp) (m : List Addr) : List (T × T) → List (Key × V) → Prop := Paired fun (p : T × T) (q : Key × V) => keyOf p.1 = some q.1 ∧ RelT K H m p.2 q.2
theorem keyEq_iff {x y : T} {k l : Key} (h1 : keyOf x = some k) (h2 : keyOf y = some l) : keyEq x y = decide (k = l) := by
  cases x <;> simp only [keyOf] at h1 <;> first | (cases h1; done) | skip
  all_goals
    cases y <;> simp only [keyOf] at h2 <;> first | (cases h2; done) | skip
  · cases h1; cases h2
    simp [keyEq]
  · cases h1; cases h2
    simp [keyEq]
  · cases h1; cases h2
    simp [keyEq]
  · cases h1; cases h2
    rename_i a b
    show decide (a = b) = _
    by_cases e : a = b
    · subst e; simp
    · rw [decide_eq_false e, decide_eq_false]
      intro z
      injection z with z
      exact e (mkS_inj z)
theorem dget_rel {K : PySem.W.Frag} {H : Hp} {m : List Addr} {kvs : List (T × T)} {l : List (Key × V)} (r : RelD K H m kvs l) {x : T} {k : Key} (hk : keyOf x = some k) :
    (dget kvs x = none ∧ valV l k = none) ∨ ∃ t v, dget kvs x = some t ∧ valV l k = some v ∧ RelT K H m t v := by
  induction r with
  | nil => exact .inl ⟨rfl, rfl⟩
  | @cons p q _ _ h _ ih =>
    have e := keyEq_iff h.1 hk
    unfold dget valV at *
    rw [List.find?_cons, List.find?_cons, e]
    by_cases z : q.1 = k
    · rw [decide_eq_true z]
      exact .inr ⟨p.2, q.2, rfl, rfl, h.2⟩
    · rw [decide_eq_false z]
      exact ih
theorem isKey_of {x : T} (h : isKey x = true) : ∃ k, keyOf x = some k := by
  cases x <;> first | exact ⟨_, rfl⟩ | cases h
theorem keyOf_v {K : PySem.W.Frag} {H : Hp} {m : List Addr} {x : T} {k : Key} {v : V} (h : keyOf x = some k) (r : RelT K H m x v) : v = kV k := by
  cases r <;> simp only [keyOf] at h <;> first | (cases h; rfl) | cases h
theorem in_core (hu : X.A.units + 110 < cLine) {pins : List (Addr × Obj)} {s : Shared} {σ : St} {H : Hp} {x y : V} {v u : Value} {m : List Addr} {S : Sta} {tx ty : T} {R : Bool → Prop} {Q : VK} (neg : Bool) (I : L2.Inv X pins σ H s) (rx : RelV x v) (ry : RelV y u) (rs : RelS X.K CA H m S)
    (r1 : RelT X.K H m tx x) (r2 : RelT X.K H m ty y) (h : inW tx ty S R) (hq : ∀ b, R b → Q (.bl (b != neg)) H) : wpAny (model X.prog X.w) X.A (compareOp (if neg then .NotIn else .In) v u) (EP X pins σ Q) X.xe s := by
  have seq : ∀ {ys : List T} {vs : List V} {its : List Value}, RelTs X.K H m ys vs → Vals vs its → gr tx = true → grs ys = true → min (deps ys) (dep tx) ≤ 100 → R (ys.any fun y => teq y tx) →
      ∃ e : Value → Bool, (∀ w, w ∈ its.toArray → SeqAt.EqAt X.A.in1 s w v (e w)) ∧ R (its.toArray.any e) := fun {ys vs its} ra rv g1 g2 hd q => by
    obtain ⟨as, q1⟩ := Dp.readsAll I (toDs ys) vs its (ra.dp g2) rv
    obtain ⟨bs, q2⟩ := Dp.reads I (toD tx) x v (r1.dp g1) rx
    refine ⟨_, SeqAt.items_eqAt (vs := its.toArray) (xs := toDs ys) (as := as) (by simpa using q1) q2 (toDs_lay _ g2) (toD_lay _ g1) (by rw [toDs_dep, toD_dep]; omega), ?_⟩
    rw [SeqAt.any_by_data (xs := toDs ys) (as := as) (by simpa using q1) (toDs_lay _ g2), any_toDs]
    exact q
  unfold inW at h
  split at h
  · cases r1; cases r2
    rename_i c z
    have e : (mkS z).cps.toList = z := mkS_cps z
    cases neg with
    | false =>
      refine op_in_sign pins s σ H _ _ v u Q I rx ry ⟨c, mkS z, rfl, rfl, ?_⟩
      rw [e]
      have := hq _ h
      simpa using this
    | true =>
      refine op_notIn_sign pins s σ H _ _ v u Q I rx ry ⟨c, mkS z, rfl, rfl, ?_⟩
      rw [e]
      have := hq _ h
      simpa using this
  · obtain ⟨g1, g2, hd, q⟩ := h
    cases r2 with
    | tup hb rb =>
      cases ry
      obtain ⟨its, rv, ht, _⟩ := I.tuple hb
      obtain ⟨e, he, q⟩ := seq rb rv g1 g2 hd q
      cases neg with
      | false => exact SeqAt.in_tupleAt e ht he ⟨.bl _, H, I, rfl, by simpa using hq _ q⟩
      | true => exact SeqAt.notIn_tupleAt e ht he ⟨.bl _, H, I, rfl, by simpa using hq _ q⟩
  · rename_i i _
    cases r2 with
    | obj hm =>
      cases ry
      split at h
      · rename_i ys ec
        obtain ⟨g1, g2, hd, q⟩ := h
        obtain ⟨a', e3, vs, e4, rb⟩ := rs.get ec
        rw [hm] at e3; cases e3
        obtain ⟨its, rv, ht, _⟩ := I.list (SqL.of e4)
        obtain ⟨e, he, q⟩ := seq rb rv g1 g2 hd q
        cases neg with
        | false => exact SeqAt.in_listAt e ht.isList he ⟨.bl _, H, I, rfl, by simpa using hq _ q⟩
        | true => exact SeqAt.notIn_listAt e ht.isList he ⟨.bl _, H, I, rfl, by simpa using hq _ q⟩
      · rename_i kvs ec
        obtain ⟨hk, q⟩ := h
        obtain ⟨k, hk⟩ := isKey_of hk
        obtain ⟨a', e3, l, e4, rd⟩ := rs.get ec
        rw [hm] at e3; cases e3
        have ev := keyOf_v hk r1
        subst ev
        have hs : (dget kvs tx).isSome = (valV l k).isSome := by
          rcases dget_rel rd hk with ⟨h1, h2⟩ | ⟨t, v, h1, h2, _⟩ <;> rw [h1, h2] <;> rfl
        cases neg with
        | false =>
          refine d_in (o := valV l k) (by omega) I (DGet.k e4) rx fun s' I' => ⟨.bl _, H, I', rfl, ?_⟩
          rw [← hs]
          simpa using hq _ q
        | true =>
          refine d_notIn (o := valV l k) (by omega) I (DGet.k e4) rx fun s' I' => ⟨.bl _, H, I', rfl, ?_⟩
          rw [← hs]
          simpa using hq _ q
      · exact h.elim
  · exact h.elim
theorem opw_in (hu : X.A.units + 110 < cLine) : OpW X CA (compareOp .In) (cmpG .In) := by
  intro pins s σ H x y v u Q I rx ry h
  obtain ⟨m, S, tx, ty, rs, r1, r2, h⟩ := h
  exact in_core hu (R := fun b => After X.K CA m H Q (.bl b) S) false I rx ry rs r1 r2 h fun b q => by
    have := q m H (.bl b) .rfl' rs (.bl _)
    simpa using this
theorem opw_notIn (hu : X.A.units + 110 < cLine) : OpW X CA (compareOp .NotIn) (cmpG .NotIn) := by
  intro pins s σ H x y v u Q I rx ry h
  obtain ⟨m, S, tx, ty, rs, r1, r2, h⟩ := h
  exact in_core hu (R := fun b => After X.K CA m H Q (.bl !b) S) true I rx ry rs r1 r2 h fun b q => by
    have := q m H (.bl !b) .rfl' rs (.bl _)
    simpa using this
theorem non_iff {K : PySem.W.Frag} {H : Hp} {m : List Addr} {x : T} {v : V} (r : RelT K H m x v) : (decide (v = .non)) = isNon x := by
  cases r <;> rfl
theorem opw_cmp (hu : X.A.units + 110 < cLine) : ∀ op, OpW X CA (compareOp op) (cmpG op)
  | .Eq => opw_eq hu
  | .NotEq => opw_ne hu
  | .In => opw_in hu
  | .NotIn => opw_notIn hu
  | .Is => by
    intro pins s σ H x y v u Q I rx ry h
    obtain ⟨m, S, tx, ty, rs, r1, r2, h⟩ := h
    obtain ⟨h1, h⟩ := h
    have e : y = .non := by
      have z := non_iff r2
      rw [h1] at z
      exact of_decide_eq_true z
    exact op_isN pins s σ H x y v u Q I rx ry ⟨e, by rw [non_iff r1]; exact h m H _ .rfl' rs (.bl _)⟩
  | .IsNot => by
    intro pins s σ H x y v u Q I rx ry h
    obtain ⟨m, S, tx, ty, rs, r1, r2, h⟩ := h
    obtain ⟨h1, h⟩ := h
    have e : y = .non := by
      have z := non_iff r2
      rw [h1] at z
      exact of_decide_eq_true z
    exact op_notN pins s σ H x y v u Q I rx ry ⟨e, by rw [non_iff r1]; exact h m H _ .rfl' rs (.bl _)⟩
  | .Lt => by
    intro pins s σ H x y v u Q I rx ry h
    obtain ⟨m, S, tx, ty, rs, r1, r2, h⟩ := h
    unfold cmpG cmpW at h
    simp only at h
    split at h
    · cases r1; cases r2
      exact op_lt pins s σ H _ _ v u Q I rx ry ⟨_, _, rfl, rfl, h m H _ .rfl' rs (.bl _)⟩
    · exact h.elim
  | .LtE => by
    intro pins s σ H x y v u Q I rx ry h
    obtain ⟨m, S, tx, ty, rs, r1, r2, h⟩ := h
    unfold cmpG cmpW at h
    simp only at h
    split at h
    · cases r1; cases r2
      exact op_le pins s σ H _ _ v u Q I rx ry ⟨_, _, rfl, rfl, h m H _ .rfl' rs (.bl _)⟩
    · exact h.elim
  | .Gt => by
    intro pins s σ H x y v u Q I rx ry h
    obtain ⟨m, S, tx, ty, rs, r1, r2, h⟩ := h
    unfold cmpG cmpW at h
    simp only at h
    split at h
    · cases r1; cases r2
      exact op_gt pins s σ H _ _ v u Q I rx ry ⟨_, _, rfl, rfl, h m H _ .rfl' rs (.bl _)⟩
    · exact h.elim
  | .GtE => by
    intro pins s σ H x y v u Q I rx ry h
    obtain ⟨m, S, tx, ty, rs, r1, r2, h⟩ := h
    unfold cmpG cmpW at h
    simp only at h
    split at h
    · cases r1; cases r2
      exact op_ge pins s σ H _ _ v u Q I rx ry ⟨_, _, rfl, rfl, h m H _ .rfl' rs (.bl _)⟩
    · exact h.elim
end
end TR
set_option Elab.async false
set_option linter.all false
set_option maxRecDepth 100000
set_option maxHeartbeats 2000000
/-! TR5: truth, and, or, not, if, chains; tests. -/
namespace TR
open PySem PySem.Spec L2

def truW (x : T) (S : Sta) (Q : Bool → Prop) : Prop :=
  match x with
  | .non => Q false
  | .bl b => Q b
  | .int i => Q (i != 0)
  | .str y => y.length ≤ sizeLine ∧ Q (!y.isEmpty)
  | .tup xs => Q (!xs.isEmpty)
  | .frz xs => Q (!xs.isEmpty)
  | .obj i => match S[i]? with
    | some (.lst xs) => Q (!xs.isEmpty)
    | some (.dct kvs) => Q (!kvs.isEmpty)
    | _ => False
theorem truW_mono {x : T} {S : Sta} {Q Q' : Bool → Prop} (h : ∀ b, Q b → Q' b) (q : truW x S Q) : truW x S Q' := by
  unfold truW at q ⊢
  split <;> simp only at q
  · exact h _ q
  · exact h _ q
  · exact h _ q
  · exact ⟨q.1, h _ q.2⟩
  · exact h _ q
  · exact h _ q
  · split <;> rename_i e <;> simp only [e] at q
    · exact h _ q
    · exact h _ q
theorem paired_empty {α β : Type} {F : α → β → Prop} {l : List α} {r : List β} (p : Paired F l r) : l.isEmpty = r.isEmpty := by cases p <;> rfl
theorem relTs_empty {K : PySem.W.Frag} {H : Hp} {m : List Addr} {l : List T} {r : List V} (p : RelTs K H m l r) : l.isEmpty = r.isEmpty := by cases p <;> rfl
theorem truW_ok {K : PySem.W.Frag} {CA : ClsAt} {H : Hp} {m : List Addr} {S : Sta} {x : T} {v : V} {Q : Bool → Prop} (rs : RelS K CA H m S) (r : RelT K H m x v) (h : truW x S Q) : ∃ k, TruV K v H k ∧ Q k := by
  cases r with
  | non => exact ⟨false, rfl, h⟩
  | bl b => exact ⟨b, rfl, h⟩
  | int i => exact ⟨i != 0, rfl, h⟩
  | str y =>
    refine ⟨!y.isEmpty, ⟨by rw [mkS_len]; exact h.1, ?_⟩, h.2⟩
    rw [mkS_len]
    cases y with
    | nil => rfl
    | cons a y =>
      have : ((List.length (a :: y) : Nat) : Int) ≠ 0 := by rw [List.length_cons]; omega
      rw [show (((List.length (a :: y) : Nat) : Int) != 0) = true from bne_iff_ne.mpr this]
      rfl
  | tup hs rs' => exact ⟨_, .inr (.inl ⟨_, hs, rfl⟩), by rw [← relTs_empty rs']; exact h⟩
  | frz hs rs' => exact ⟨_, .inl ⟨_, hs.l, rfl⟩, by rw [← relTs_empty rs']; exact h⟩
  | obj hm =>
    unfold truW at h
    simp only at h
    split at h
    · rename_i e
      obtain ⟨a, e3, vs, e4, rb⟩ := rs.get e
      rw [hm] at e3; cases e3
      exact ⟨_, .inl ⟨_, SqL.of e4, rfl⟩, by rw [← relTs_empty rb]; exact h⟩
    · rename_i e
      obtain ⟨a, e3, vs, e4, rb⟩ := rs.get e
      rw [hm] at e3; cases e3
      exact ⟨_, .inr (.inr ⟨_, e4, rfl⟩), by rw [← paired_empty rb]; exact h⟩
    · exact h.elim
def wT (w : Wp) : Wt := fun ρ S Q => w ρ S fun x S1 => truW x S1 fun b => Q b S1
theorem mono_T {w : Wp} (a : MonoW w) : MonoT (wT w) := fun _ _ _ _ h q => a _ _ _ _ (fun _ _ q => truW_mono (fun _ q => h _ _ q) q) q
def wAnd (wa wb : Wp) : Wp := fun ρ S Q => wa ρ S fun x S1 => truW x S1 fun b => if b = true then wb ρ S1 Q else Q x S1
def wOr (wa wb : Wp) : Wp := fun ρ S Q => wa ρ S fun x S1 => truW x S1 fun b => if b = true then Q x S1 else wb ρ S1 Q
def wNot (wa : Wp) : Wp := fun ρ S Q => wa ρ S fun x S1 => truW x S1 fun b => Q (.bl (!b)) S1
def wIf (wc wa wb : Wp) : Wp := fun ρ S Q => wc ρ S fun x S1 => truW x S1 fun b => if b = true then wa ρ S1 Q else wb ρ S1 Q
theorem mono_and {wa wb : Wp} (a : MonoW wa) (b : MonoW wb) : MonoW (wAnd wa wb) := fun _ _ _ _ h q => a _ _ _ _ (fun _ _ q => truW_mono (fun c q => by
  cases c with
  | true => exact b _ _ _ _ h q
  | false => exact h _ _ q) q) q
theorem mono_or {wa wb : Wp} (a : MonoW wa) (b : MonoW wb) : MonoW (wOr wa wb) := fun _ _ _ _ h q => a _ _ _ _ (fun _ _ q => truW_mono (fun c q => by
  cases c with
  | false => exact b _ _ _ _ h q
  | true => exact h _ _ q) q) q
theorem mono_not {wa : Wp} (a : MonoW wa) : MonoW (wNot wa) := fun _ _ _ _ h q => a _ _ _ _ (fun _ _ q => truW_mono (fun c q => h _ _ q) q) q
theorem mono_if {wc wa wb : Wp} (c : MonoW wc) (a : MonoW wa) (b : MonoW wb) : MonoW (wIf wc wa wb) := fun _ _ _ _ h q => c _ _ _ _ (fun _ _ q => truW_mono (fun k q => by
  cases k with
  | true => exact a _ _ _ _ h q
  | false => exact b _ _ _ _ h q) q) q
section
variable {X : Cx} {CA : ClsAt} {pos : Pos} {a b c : Expr} {wa wb wc : Wp} {rest : List Expr}
theorem px_one {op : BoolOp} (h : PX X CA a wa) : PX X CA (.BoolOp op [a] pos) wa := pe_one h
theorem px_and (ma : MonoW wa) (mb : MonoW wb) (ha : PX X CA a wa) (hb : PX X CA (.BoolOp .And (b :: rest) pos) wb) : PX X CA (.BoolOp .And (a :: b :: rest) pos) (wAnd wa wb) :=
  PE.imp (pe_andT ha hb) fun σ H Q q => by
    obtain ⟨m, ρ, S, rs, re, q⟩ := q
    refine lift_of ma rs re q fun x S1 m1 H1 v k1 rs1 re1 rx q => ?_
    obtain ⟨k, h1, q⟩ := truW_ok rs1 rx q
    refine ⟨k, h1, ?_⟩
    cases k with
    | true => exact lift_of mb rs1 re1 q fun y S2 m2 H2 u k2 rs2 re2 ry q => q m2 H2 u (k1.trans k2) rs2 ry
    | false => exact q m1 H1 v k1 rs1 rx
theorem px_or (ma : MonoW wa) (mb : MonoW wb) (ha : PX X CA a wa) (hb : PX X CA (.BoolOp .Or (b :: rest) pos) wb) : PX X CA (.BoolOp .Or (a :: b :: rest) pos) (wOr wa wb) :=
  PE.imp (pe_orT ha hb) fun σ H Q q => by
    obtain ⟨m, ρ, S, rs, re, q⟩ := q
    refine lift_of ma rs re q fun x S1 m1 H1 v k1 rs1 re1 rx q => ?_
    obtain ⟨k, h1, q⟩ := truW_ok rs1 rx q
    refine ⟨k, h1, ?_⟩
    cases k with
    | false => exact lift_of mb rs1 re1 q fun y S2 m2 H2 u k2 rs2 re2 ry q => q m2 H2 u (k1.trans k2) rs2 ry
    | true => exact q m1 H1 v k1 rs1 rx
theorem px_not (ma : MonoW wa) (ha : PX X CA a wa) : PX X CA (.UnaryOp .Not a pos) (wNot wa) :=
  PE.imp (pe_notT ha) fun σ H Q q => by
    obtain ⟨m, ρ, S, rs, re, q⟩ := q
    refine lift_of ma rs re q fun x S1 m1 H1 v k1 rs1 re1 rx q => ?_
    obtain ⟨k, h1, q⟩ := truW_ok rs1 rx q
    exact ⟨k, h1, q m1 H1 _ k1 rs1 (.bl _)⟩
theorem px_if (mc : MonoW wc) (ma : MonoW wa) (mb : MonoW wb) (hc : PXT X CA c (wT wc)) (ha : PX X CA a wa) (hb : PX X CA b wb) : PX X CA (.IfExp c a b pos) (wIf wc wa wb) :=
  PE.imp (pe_ifExp hc ha hb) fun σ H Q q => by
    obtain ⟨m, ρ, S, rs, re, q⟩ := q
    refine liftT_of (w := wT wc) (mono_T mc) rs re q fun k S1 m1 H1 k1 rs1 re1 q => ?_
    cases k with
    | true => exact lift_of ma rs1 re1 q fun y S2 m2 H2 u k2 rs2 re2 ry q => q m2 H2 u (k1.trans k2) rs2 ry
    | false => exact lift_of mb rs1 re1 q fun y S2 m2 H2 u k2 rs2 re2 ry q => q m2 H2 u (k1.trans k2) rs2 ry
/-! comparisons -/
theorem px_cmp (hu : X.A.units + 110 < cLine) {op : CmpOp} (ma : MonoW wa) (mb : MonoW wb) (ha : PX X CA a wa) (hb : PX X CA b wb) (hm : behindInMarks op b = false) : PX X CA (.Compare a [op] [b] pos) (wOp (cmpG op) wa wb) :=
  PE.imp (pe_cmpR (opw_cmp (CA := CA) hu op) ha hb hm) fun σ H Q q => tOp_of cmpG_mono ma mb q
def wChain (op op' : CmpOp) (wa wb wc : Wp) : Wp := fun ρ S Q => wa ρ S fun x S1 => wb ρ S1 fun y S2 => cmpW op x y S2 fun k => if k = true then wc ρ S2 fun z S3 => cmpW op' y z S3 fun k' => Q (.bl k') S3 else Q (.bl false) S2
theorem mono_chain {op op' : CmpOp} (a : MonoW wa) (b : MonoW wb) (c : MonoW wc) : MonoW (wChain op op' wa wb wc) := fun _ _ _ _ h q => a _ _ _ _ (fun _ _ q => b _ _ _ _ (fun _ _ q => cmpW_mono (fun k q => by
  cases k with
  | true => exact c _ _ _ _ (fun _ _ q => cmpW_mono (fun _ q => h _ _ q) q) q
  | false => exact h _ _ q) q) q) q
theorem tChain_of {op op' : CmpOp} (ma : MonoW wa) (mb : MonoW wb) (mc : MonoW wc) {σ : St} {H : Hp} {Q : VK} (h : lift X.K CA (wChain op op' wa wb wc) σ H Q) :
    tChain (fun v u H Q => ∃ m S x y, RelS X.K CA H m S ∧ RelT X.K H m x v ∧ RelT X.K H m y u ∧ cmpG op x y S (After X.K CA m H Q)) (fun v u H Q => ∃ m S x y, RelS X.K CA H m S ∧ RelT X.K H m x v ∧ RelT X.K H m y u ∧ cmpG op' x y S (After X.K CA m H Q))
      (lift X.K CA wa) (lift X.K CA wb) (lift X.K CA wc) σ H Q := by
  obtain ⟨m, ρ, S, rs, re, q⟩ := h
  refine lift_of ma rs re q fun x S1 m1 H1 v k1 rs1 re1 rx q => ?_
  refine lift_of mb rs1 re1 q fun y S2 m2 H2 u k2 rs2 re2 ry q => ?_
  refine ⟨m2, S2, x, y, rs2, rx.mono k2, ry, cmpW_mono (fun k q => ?_) q⟩
  intro m3 H3 v3 k3 rs3 rt3
  cases rt3
  refine ⟨k, rfl, ?_⟩
  cases k with
  | true =>
    refine lift_of mc rs3 (re2.mono k3) q fun z S4 m4 H4 u4 k4 rs4 re4 rz q => ?_
    refine ⟨m4, S4, y, z, rs4, ry.mono (k3.trans k4), rz, cmpW_mono (fun k' q => ?_) q⟩
    intro m5 H5 v5 k5 rs5 rt5
    exact q m5 H5 v5 ((((k1.trans k2).trans k3).trans k4).trans k5) rs5 rt5
  | false => exact q m3 H3 _ ((k1.trans k2).trans k3) rs3 (.bl _)
theorem px_chain (hu : X.A.units + 110 < cLine) {op op' : CmpOp} (ma : MonoW wa) (mb : MonoW wb) (mc : MonoW wc) (ha : PX X CA a wa) (hb : PX X CA b wb) (hc : PX X CA c wc) (hm : lastMarks [op, op'] [b, c] = false) : PX X CA (.Compare a [op, op'] [b, c] pos) (wChain op op' wa wb wc) :=
  PE.imp (pe_chain (opw_cmp (CA := CA) hu op) (opw_cmp (CA := CA) hu op') ha hb hc hm) fun σ H Q q => tChain_of ma mb mc q

/-! ### tests -/
def plainT : Expr → Bool
  | .UnaryOp .Not _ _ => false
  | .BoolOp _ _ _ => false
  | .IfExp _ _ _ _ => false
  | .Compare _ _ _ _ => false
  | _ => true
theorem plainT_ok {e : Expr} (h : plainT e = true) {env : Env} (whole : Sem Value) : isTrue e env whole = (do let v ← whole; standAt e.pos; holding [v] (truthy v)) := by
  cases e <;> first | rfl | cases h | (rename_i op _ _; cases op <;> first | rfl | cases h)
theorem pxt_plain (ma : MonoW wa) (hp : plainT a = true) (ha : PX X CA a wa) : PXT X CA a (wT wa) :=
  PT.imp (pt_truth ha (plainT_ok hp)) fun σ H Q q => by
    obtain ⟨m, ρ, S, rs, re, q⟩ := q
    refine lift_of ma rs re q fun x S1 m1 H1 v k1 rs1 re1 rx q => ?_
    obtain ⟨k, h1, q⟩ := truW_ok rs1 rx q
    exact ⟨k, h1, q m1 H1 k1 rs1⟩
theorem pxt_not (ma : MonoW wa) (ha : PXT X CA a (wT wa)) : PXT X CA (.UnaryOp .Not a pos) (wT (wNot wa)) :=
  PT.imp (pt_not ha) fun σ H Q q => by
    obtain ⟨m, ρ, S, rs, re, q⟩ := q
    refine liftT_of (w := wT wa) (mono_T ma) rs re q fun k S1 m1 H1 k1 rs1 re1 q => ?_
    exact q m1 H1 k1 rs1
abbrev PXW (X : Cx) (CA : ClsAt) (e : Expr) (w : Wt) : Prop := PW X e (liftT X.K CA w)
theorem PW.imp {X : Cx} {e : Expr} {t t' : TT} (h : PW X e t) (i : ∀ σ H Q, t' σ H Q → t σ H Q) : PW X e t' := ⟨fun wh pins s σ H Q I hq => h.run wh pins s σ H Q I (i σ H Q hq)⟩
theorem pxw_one_and (h : PXT X CA a (wT wa)) : PXW X CA (.BoolOp .And [a] pos) (wT wa) := pw_and1 h
theorem pxw_one_or (h : PXT X CA a (wT wa)) : PXW X CA (.BoolOp .Or [a] pos) (wT wa) := pw_or1 h
theorem tru_bl {b : Bool} {S : Sta} {Q : Bool → Prop} : truW (.bl b) S Q = Q b := rfl
theorem truW_two {x : T} {S : Sta} {P Q : Bool → Prop} (h : truW x S P) (k : truW x S Q) : truW x S fun b => P b ∧ Q b := by
  unfold truW at h k ⊢
  split <;> simp only at h k
  · exact ⟨h, k⟩
  · exact ⟨h, k⟩
  · exact ⟨h, k⟩
  · exact ⟨h.1, h.2, k.2⟩
  · exact ⟨h, k⟩
  · exact ⟨h, k⟩
  · split <;> rename_i e <;> simp only [e] at h k
    · exact ⟨h, k⟩
    · exact ⟨h, k⟩
theorem truW_self {x : T} {S : Sta} {P : Bool → Prop} (h : truW x S P) : truW x S fun b => P b ∧ ∀ Q : Bool → Prop, truW x S Q → Q b := by
  unfold truW at h ⊢
  split <;> simp only at h
  · exact ⟨h, fun _ q => q⟩
  · exact ⟨h, fun _ q => q⟩
  · exact ⟨h, fun _ q => q⟩
  · exact ⟨h.1, h.2, fun _ q => q.2⟩
  · exact ⟨h, fun _ q => q⟩
  · exact ⟨h, fun _ q => q⟩
  · split <;> rename_i e <;> simp only [e] at h ⊢
    · exact ⟨h, fun _ q => by simpa [truW, e] using q⟩
    · exact ⟨h, fun _ q => by simpa [truW, e] using q⟩
theorem truW_and {x : T} {S : Sta} {A : Prop} {R : Bool → Prop} (h : truW x S fun b => if b = true then A else truW x S R) : truW x S fun b => if b = true then A else R b :=
  truW_mono (fun b q => by
    cases b with
    | true => exact q.1
    | false => exact q.2 _ q.1) (truW_self h)
theorem truW_or {x : T} {S : Sta} {A : Prop} {R : Bool → Prop} (h : truW x S fun b => if b = true then truW x S R else A) : truW x S fun b => if b = true then R b else A :=
  truW_mono (fun b q => by
    cases b with
    | true => exact q.2 _ q.1
    | false => exact q.1) (truW_self h)
theorem pxw_and (ma : MonoW wa) (mb : MonoW wb) (ha : PXT X CA a (wT wa)) (hb : PXW X CA (.BoolOp .And (b :: rest) pos) (wT wb)) : PXW X CA (.BoolOp .And (a :: b :: rest) pos) (wT (wAnd wa wb)) :=
  PW.imp (pw_and ha hb) fun σ H Q q => by
    obtain ⟨m, ρ, S, rs, re, q⟩ := q
    have q' : wT wa ρ S fun k S1 => if k = true then wT wb ρ S1 (fun b S' => ∀ m' H', Step m H m' H' → RelS X.K CA H' m' S' → Q b H') else ∀ m' H', Step m H m' H' → RelS X.K CA H' m' S1 → Q k H' :=
      ma _ _ _ _ (fun x S1 q => truW_and q) q
    refine liftT_of (w := wT wa) (mono_T ma) rs re q' fun k S1 m1 H1 k1 rs1 re1 q => ?_
    cases k with
    | true => exact liftT_of (w := wT wb) (mono_T mb) rs1 re1 q fun k2 S2 m2 H2 k2' rs2 re2 q => q m2 H2 (k1.trans k2') rs2
    | false => exact q m1 H1 k1 rs1
theorem pxw_or (ma : MonoW wa) (mb : MonoW wb) (ha : PXT X CA a (wT wa)) (hb : PXW X CA (.BoolOp .Or (b :: rest) pos) (wT wb)) : PXW X CA (.BoolOp .Or (a :: b :: rest) pos) (wT (wOr wa wb)) :=
  PW.imp (pw_or ha hb) fun σ H Q q => by
    obtain ⟨m, ρ, S, rs, re, q⟩ := q
    have q' : wT wa ρ S fun k S1 => if k = true then (∀ m' H', Step m H m' H' → RelS X.K CA H' m' S1 → Q k H') else wT wb ρ S1 (fun b S' => ∀ m' H', Step m H m' H' → RelS X.K CA H' m' S' → Q b H') :=
      ma _ _ _ _ (fun x S1 q => truW_or q) q
    refine liftT_of (w := wT wa) (mono_T ma) rs re q' fun k S1 m1 H1 k1 rs1 re1 q => ?_
    cases k with
    | false => exact liftT_of (w := wT wb) (mono_T mb) rs1 re1 q fun k2 S2 m2 H2 k2' rs2 re2 q => q m2 H2 (k1.trans k2') rs2
    | true => exact q m1 H1 k1 rs1
theorem pxt_cmp (hu : X.A.units + 110 < cLine) {op : CmpOp} (ma : MonoW wa) (mb : MonoW wb) (ha : PX X CA a wa) (hb : PX X CA b wb) (hm : behindInMarks op b = false) : PXT X CA (.Compare a [op] [b] pos) (wT (wOp (cmpG op) wa wb)) :=
  PT.imp (pt_cmpR (opw_cmp (CA := CA) hu op) ha hb hm) fun σ H Q q => by
    obtain ⟨m, ρ, S, rs, re, q⟩ := q
    refine tOp_of (g := cmpG op) cmpG_mono ma mb ⟨m, ρ, S, rs, re, ma _ _ _ _ (fun x S1 q => mb _ _ _ _ (fun y S2 q => cmpW_mono (fun k q => ?_) q) q) q⟩
    intro m3 H3 v3 k3 rs3 rt3
    cases rt3
    exact ⟨k, rfl, q m3 H3 k3 rs3⟩
theorem pxt_chain (hu : X.A.units + 110 < cLine) {op op' : CmpOp} (ma : MonoW wa) (mb : MonoW wb) (mc : MonoW wc) (ha : PX X CA a wa) (hb : PX X CA b wb) (hc : PX X CA c wc) (hm : lastMarks [op, op'] [b, c] = false) : PXT X CA (.Compare a [op, op'] [b, c] pos) (wT (wChain op op' wa wb wc)) :=
  PT.imp (pt_chain (opw_cmp (CA := CA) hu op) (opw_cmp (CA := CA) hu op') ha hb hc hm) fun σ H Q q => by
    obtain ⟨m, ρ, S, rs, re, q⟩ := q
    refine tChain_of ma mb mc ⟨m, ρ, S, rs, re, mono_chain ma mb mc _ _ (fun x S1 => ∃ k, x = .bl k ∧ ∀ m' H', Step m H m' H' → RelS X.K CA H' m' S1 → Q k H') _ (fun t S1 q => ?_) ?_⟩
    · obtain ⟨k, e, q⟩ := q
      subst e
      intro m3 H3 v3 k3 rs3 rt3
      cases rt3
      exact ⟨k, rfl, q m3 H3 k3 rs3⟩
    · refine ma _ _ _ _ (fun x S1 q => mb _ _ _ _ (fun y S2 q => cmpW_mono (fun k q => ?_) q) q) q
      cases k with
      | true => exact mc _ _ _ _ (fun _ _ q => cmpW_mono (fun k' q => ⟨k', rfl, q⟩) q) q
      | false => exact ⟨false, rfl, q⟩
end
end TR
set_option Elab.async false
set_option linter.all false
set_option maxRecDepth 100000
set_option maxHeartbeats 2000000
/-! TR6: subscripts, slices, fields. -/
namespace TR
open PySem PySem.Spec L2
open PyProof.Rows hiding St

/-! ### x[y] -/
def ixG (x y : T) (S : Sta) (Q : T → Sta → Prop) : Prop :=
  match x, y with
  | .tup xs, .int i => ∃ t, atI xs i = some t ∧ Q t S
  | .frz xs, .int i => ∃ t, atI xs i = some t ∧ Q t S
  | .str z, .int i => z.length ≤ sizeLine ∧ ∃ c, atI z i = some c ∧ Q (.str [c]) S
  | .obj j, y => match S[j]? with
    | some (.lst xs) => (match y with
      | .int i => ∃ t, atI xs i = some t ∧ Q t S
      | _ => False)
    | some (.dct kvs) => isKey y = true ∧ ∃ t, dget kvs y = some t ∧ Q t S
    | _ => False
  | _, _ => False
theorem ixG_mono : ∀ x y S Q Q', (∀ t S', Q t S' → Q' t S') → ixG x y S Q → ixG x y S Q' := by
  intro x y S Q Q' h q
  unfold ixG at q ⊢
  split <;> simp only at q
  · obtain ⟨t, e, q⟩ := q; exact ⟨t, e, h _ _ q⟩
  · obtain ⟨t, e, q⟩ := q; exact ⟨t, e, h _ _ q⟩
  · obtain ⟨hl, t, e, q⟩ := q; exact ⟨hl, t, e, h _ _ q⟩
  · split <;> rename_i e <;> simp only [e] at q
    · split <;> simp only at q
      obtain ⟨t, e, q⟩ := q; exact ⟨t, e, h _ _ q⟩
    · obtain ⟨hk, t, e, q⟩ := q; exact ⟨hk, t, e, h _ _ q⟩
section
variable {X : Cx} {CA : ClsAt}
theorem ix_dict (hu : X.A.units + 1 < cLine) : IxR X (fun x y H Q => ∃ a v, x = .ref a ∧ DGet H a y (some v) ∧ Q v H) := by
  intro value slice pins s σ H x y v u Q I rx ry h hs
  obtain ⟨a, z, rfl, g, q⟩ := h
  obtain rfl : v = Value.ref a := rx
  have hT := dict_typeIs I g
  unfold subscriptTail
  refine wpAny_bind ?_
  rw [getitemInPython_of_ne hT.not_modules]
  refine wpAny_bind (wpAny_specialOf hT PySem.F.slot_dict_getitem.lookup ?_)
  have fin : wpAny (model X.prog X.w) X.A (subscripted slice false (.ref a) u) (fun r s₃ => wpAny (model X.prog X.w) X.A (letTemporaryGo value (.ref a) r >>= fun _ => pure r) (EP X pins σ Q) X.xe s₃) X.xe s := by
    rw [hs]
    exact wpAny_operating (d_getItem hu I g ry fun w' s3 I3 rw' => wpAny_bind (wpAny_letTemporaryGo (wpAny_pure ⟨z, H, I3, rw', q⟩)))
  first
    | exact wpAny_pure (wpAny_bind fin)
    | exact wpAny_bind (wpAny_pure (wpAny_bind fin))
    | exact wpAny_bind fin
def IxW (X : Cx) (CA : ClsAt) : Prop := IxR X fun v u H Q => ∃ m S x y, RelS X.K CA H m S ∧ RelT X.K H m x v ∧ RelT X.K H m y u ∧ ixG x y S (After X.K CA m H Q)
theorem atI_rel {K : PySem.W.Frag} {H : Hp} {m : List Addr} {ts : List T} {vs : List V} (r : RelTs K H m ts vs) {i : Int} {t : T} (e : atI ts i = some t) : ∃ v, atI vs i = some v ∧ RelT K H m t v := by
  unfold atI at e ⊢
  rw [r.length] at e
  cases z : ixN vs.length i with
  | none => rw [z] at e; cases e
  | some j =>
    rw [z] at e
    exact r.get (i := j) e
theorem ixw (hu : X.A.units + 110 < cLine) : IxW X CA := by
  intro value slice pins s σ H x y v u Q I rx ry h hs
  obtain ⟨m, S, tx, ty, rs, r1, r2, h⟩ := h
  have nil : ∀ {v : V} {t : T}, RelT X.K H m t v → After X.K CA m H Q t S → Q v H := fun r q => q m H _ .rfl' rs r
  unfold ixG at h
  split at h
  · cases r1 with
    | tup ha ra =>
      cases r2
      obtain ⟨t, e, q⟩ := h
      obtain ⟨z, e2, rz⟩ := atI_rel ra e
      exact ix_tup value slice pins s σ H _ _ v u Q I rx ry ⟨_, _, _, z, rfl, rfl, ha, e2, nil rz q⟩ hs
  · cases r1 with
    | frz ha ra =>
      cases r2
      obtain ⟨t, e, q⟩ := h
      obtain ⟨z, e2, rz⟩ := atI_rel ra e
      exact ix_list value slice pins s σ H _ _ v u Q I rx ry ⟨_, _, _, z, rfl, rfl, ha.l, e2, nil rz q⟩ hs
  · cases r1; cases r2
    obtain ⟨hl, c, e, q⟩ := h
    refine ix_str value slice pins s σ H _ _ v u Q I rx ry ⟨mkS _, _, c, rfl, rfl, by rw [mkS_len]; exact hl, by rw [mkS_cps]; exact e, nil (.str [c]) q⟩ hs
  · cases r1 with
    | obj hm =>
      split at h
      · rename_i ec
        split at h
        · cases r2
          obtain ⟨a, e3, vs, e4, rb⟩ := rs.get ec
          rw [hm] at e3; cases e3
          obtain ⟨t, e, q⟩ := h
          obtain ⟨z, e2, rz⟩ := atI_rel rb e
          exact ix_list value slice pins s σ H _ _ v u Q I rx ry ⟨_, _, _, z, rfl, rfl, SqL.of e4, e2, nil rz q⟩ hs
        · exact h.elim
      · rename_i kvs ec
        obtain ⟨a, e3, l, e4, rd⟩ := rs.get ec
        rw [hm] at e3; cases e3
        obtain ⟨hk, t, e, q⟩ := h
        obtain ⟨k, hk⟩ := isKey_of hk
        have ev := keyOf_v hk r2
        subst ev
        rcases dget_rel rd hk with ⟨h1, _⟩ | ⟨t', w, h1, h2, rw'⟩
        · rw [h1] at e; cases e
        · rw [h1] at e; cases e
          refine ix_dict (by omega) value slice pins s σ H _ _ v u Q I rx ry ⟨_, w, rfl, ?_, nil rw' q⟩ hs
          have g := DGet.k (k := k) e4
          rw [h2] at g
          exact g
      · exact h.elim
  · exact h.elim
end
def notSlice : Expr → Bool
  | .Slice _ _ _ _ => false
  | _ => true
theorem notSlice_ok {b : Expr} (h : notSlice b = true) : PlainIx b := by
  intro o i
  cases b <;> first | rfl | cases h
section
variable {X : Cx} {CA : ClsAt} {pos : Pos} {a b : Expr} {wa wb : Wp}
theorem px_ix (hu : X.A.units + 110 < cLine) (ma : MonoW wa) (mb : MonoW wb) (ha : PX X CA a wa) (hb : PX X CA b wb) (hs : notSlice b = true) : PX X CA (.Subscript a b pos) (wOp ixG wa wb) :=
  PE.imp (pe_ix (ixw (CA := CA) hu) ha hb (notSlice_ok hs)) fun σ H Q q => tOp_of ixG_mono ma mb q

/-! ### slices -/
abbrev Wo := Ev → Sta → (Option Int → Sta → Prop) → Prop
def MonoO (w : Wo) : Prop := ∀ ρ S Q Q', (∀ t S', Q t S' → Q' t S') → w ρ S Q → w ρ S Q'
def liftO (K : PySem.W.Frag) (CA : ClsAt) (w : Wo) : TO := fun σ H Q => ∃ m ρ S, RelS K CA H m S ∧ RelE K H m ρ σ ∧ w ρ S fun o S' => ∀ m' H', Step m H m' H' → RelS K CA H' m' S' → Q o H'
theorem liftO_of {K : PySem.W.Frag} {CA : ClsAt} {m : List Addr} {ρ : Ev} {S : Sta} {σ : St} {H : Hp} {w : Wo} (mw : MonoO w) {k : Option Int → Sta → Prop} {R : Option Int → Hp → Prop} (rs : RelS K CA H m S) (re : RelE K H m ρ σ) (hw : w ρ S k)
    (hk : ∀ b S' m' H', Step m H m' H' → RelS K CA H' m' S' → RelE K H' m' ρ σ → k b S' → R b H') : liftO K CA w σ H R :=
  ⟨m, ρ, S, rs, re, mw _ _ _ _ (fun b S' q m' H' a d => hk b S' m' H' a d (re.mono a) q) hw⟩
theorem PO.imp {X : Cx} {e : Option Expr} {t t' : TO} (h : PO X e t) (i : ∀ σ H Q, t' σ H Q → t σ H Q) : PO X e t' := ⟨fun pins s σ H Q I hq => h.run pins s σ H Q I (i σ H Q hq)⟩
abbrev PXO (X : Cx) (CA : ClsAt) (e : Option Expr) (w : Wo) : Prop := PO X e (liftO X.K CA w)
def woN : Wo := fun _ S Q => Q none S
def woS (w : Wp) : Wo := fun ρ S Q => w ρ S fun x S1 => match x with
  | .int i => Q (some i) S1
  | _ => False
theorem mono_oN : MonoO woN := fun _ _ _ _ h q => h _ _ q
theorem mono_oS {w : Wp} (a : MonoW w) : MonoO (woS w) := fun _ _ _ _ h q => a _ _ _ _ (fun x S1 q => by cases x <;> first | exact h _ _ q | exact q) q
theorem pxo_none : PXO X CA none woN := PO.imp po_none fun σ H Q q => by
  obtain ⟨m, ρ, S, rs, re, q⟩ := q
  exact q m H .rfl' rs
theorem pxo_some (ma : MonoW wa) (ha : PX X CA a wa) : PXO X CA (some a) (woS wa) := PO.imp (po_some ha) fun σ H Q q => by
  obtain ⟨m, ρ, S, rs, re, q⟩ := q
  refine lift_of ma rs re q fun x S1 m1 H1 v k1 rs1 re1 rx q => ?_
  cases rx <;> simp only at q
  exact ⟨_, rfl, q m1 H1 k1 rs1⟩
def cutL {α : Type} (xs : List α) (lo hi : Option Int) : List α := (xs.drop (HT.sIx xs.length 0 lo)).take (HT.sIx xs.length xs.length hi - HT.sIx xs.length 0 lo)
def slG (x : T) (lo hi : Option Int) (S : Sta) (Q : T → Sta → Prop) : Prop :=
  match x with
  | .tup xs => Q (.tup (cutL xs lo hi)) S
  | .frz xs => Q (.obj S.length) (S ++ [.lst (cutL xs lo hi)])
  | .str z => z.length ≤ sizeLine ∧ Q (.str (cutL z lo hi)) S
  | .obj j => match S[j]? with
    | some (.lst xs) => Q (.obj S.length) (S ++ [.lst (cutL xs lo hi)])
    | _ => False
  | _ => False
theorem slG_mono : ∀ x lo hi S Q Q', (∀ t S', Q t S' → Q' t S') → slG x lo hi S Q → slG x lo hi S Q' := by
  intro x lo hi S Q Q' h q
  unfold slG at q ⊢
  split <;> simp only at q
  · exact h _ _ q
  · exact h _ _ q
  · exact ⟨q.1, h _ _ q.2⟩
  · split <;> rename_i e <;> simp only [e] at q
    exact h _ _ q
theorem cutL_rel {K : PySem.W.Frag} {H : Hp} {m : List Addr} {ts : List T} {vs : List V} (r : RelTs K H m ts vs) (lo hi : Option Int) : RelTs K H m (cutL ts lo hi) (cutV vs lo hi) := by
  unfold cutL cutV
  rw [r.length]
  exact (r.drop _).take _
theorem cutL_whole {α : Type} (xs : List α) {lo hi : Option Int} (h : HT.sIx xs.length 0 lo = 0 ∧ HT.sIx xs.length xs.length hi = xs.length) : cutL xs lo hi = xs := by
  unfold cutL
  rw [h.1, h.2]
  simp
theorem sl_all (hu : X.A.units + 110 < cLine) : SlR X fun v lo hi H Q => ∃ m S x, RelS X.K CA H m S ∧ RelT X.K H m x v ∧ slG x lo hi S (After X.K CA m H Q) := by
  intro pins s σ H x v vl vu lo hi sl Q I rx hs pl pu h
  obtain ⟨m, S, tx, rs, r1, h⟩ := h
  unfold slG at h
  split at h
  · cases r1 with
    | tup ha ra =>
      refine sl_tupA pins s σ H _ v vl vu lo hi sl Q I rx hs pl pu ⟨_, _, rfl, ha, fun e => ?_, fun _ p hp => ?_⟩
      · rw [← ra.length] at e
        rw [cutL_whole _ e] at h
        exact h m H _ .rfl' rs (.tup ha ra)
      · exact h m _ _ (Step.new hp) (rs.new hp) (.tup (SqT.of upd_same) ((cutL_rel ra lo hi).mono (Step.new hp)))
  · cases r1 with
    | frz ha ra =>
      refine sl_list pins s σ H _ v vl vu lo hi sl Q I rx hs pl pu ⟨_, _, rfl, ha.l, fun p hp => ?_⟩
      exact h (m ++ [p]) _ _ (Step.push hp) (push_lst rs hp (cutL_rel ra lo hi)) (obj_new rs.len)
  · cases r1
    rename_i z
    refine sl_str pins s σ H _ v vl vu lo hi sl Q I rx hs pl pu ⟨_, rfl, by rw [mkS_len]; exact h.1, ?_⟩
    have e : cutS (mkS z) lo hi = mkS (cutL z lo hi) := by
      unfold cutS cutL
      rw [mkS_len, mkS_cps]
    rw [e]
    exact h.2 m H _ .rfl' rs (.str _)
  · cases r1 with
    | obj hm =>
      split at h
      · rename_i ec
        obtain ⟨a, e3, vs, e4, rb⟩ := rs.get ec
        rw [hm] at e3; cases e3
        refine sl_list pins s σ H _ v vl vu lo hi sl Q I rx hs pl pu ⟨_, _, rfl, SqL.of e4, fun p hp => ?_⟩
        exact h (m ++ [p]) _ _ (Step.push hp) (push_lst rs hp (cutL_rel rb lo hi)) (obj_new rs.len)
      · exact h.elim
  · exact h.elim
def wSl (wa : Wp) (wl wh : Wo) : Wp := fun ρ S Q => wa ρ S fun x S1 => wl ρ S1 fun lo S2 => wh ρ S2 fun hi S3 => slG x lo hi S3 Q
theorem mono_sl {wl wh : Wo} (a : MonoW wa) (l : MonoO wl) (h : MonoO wh) : MonoW (wSl wa wl wh) := fun _ _ _ _ k q => a _ _ _ _ (fun _ _ q => l _ _ _ _ (fun _ _ q => h _ _ _ _ (fun _ _ q => slG_mono _ _ _ _ _ _ k q) q) q) q
theorem px_slice (hu : X.A.units + 110 < cLine) {lo hi : Option Expr} {wl wh : Wo} {p2 : Pos} (ma : MonoW wa) (ml : MonoO wl) (mh : MonoO wh) (ha : PX X CA a wa) (hl : PXO X CA lo wl) (hh : PXO X CA hi wh) : PX X CA (.Subscript a (.Slice lo hi none p2) pos) (wSl wa wl wh) :=
  PE.imp (pe_slice (sl_all (CA := CA) hu) ha hl hh) fun σ H Q q => by
    obtain ⟨m, ρ, S, rs, re, q⟩ := q
    refine lift_of ma rs re q fun x S1 m1 H1 v k1 rs1 re1 rx q => ?_
    refine liftO_of ml rs1 re1 q fun o1 S2 m2 H2 k2 rs2 re2 q => ?_
    refine liftO_of mh rs2 re2 q fun o2 S3 m3 H3 k3 rs3 re3 q => ?_
    exact ⟨m3, S3, x, rs3, rx.mono (k2.trans k3), slG_mono _ _ _ _ _ _ (fun t S' q m' H' v' k4 rs4 rt => q m' H' v' (((k1.trans k2).trans k3).trans k4) rs4 rt) q⟩
/-- xs[::-1], a list -/
def wRev (wa : Wp) : Wp := fun ρ S Q => wa ρ S fun x S1 => match x with
  | .obj j => (match S1[j]? with
    | some (.lst xs) => Q (.obj S1.length) (S1 ++ [.lst xs.reverse])
    | _ => False)
  | .frz xs => Q (.obj S1.length) (S1 ++ [.lst xs.reverse])
  | .tup xs => Q (.tup xs.reverse) S1
  | _ => False
theorem mono_rev (a : MonoW wa) : MonoW (wRev wa) := fun _ _ _ _ k q => a _ _ _ _ (fun x S1 q => by
  cases x <;> simp only at q ⊢ <;> first | exact q.elim | skip
  · exact k _ _ q
  · exact k _ _ q
  · split at q <;> first | exact k _ _ q | exact q.elim) q
theorem px_rev {k : Nat} {p1 p2 p3 : Pos} (ma : MonoW wa) (ha : PX X CA a wa) : PX X CA (.Subscript a (.Slice none none (some (.UnaryOp .USub (.Constant (.int 1) k p1) p2)) p3) pos) (wRev wa) :=
  PE.imp (pe_back ha) fun σ H Q q => by
    obtain ⟨m, ρ, S, rs, re, q⟩ := q
    refine lift_of ma rs re q fun x S1 m1 H1 v k1 rs1 re1 rx q => ?_
    cases rx with
    | obj hm =>
      simp only at q
      split at q
      · rename_i ec
        obtain ⟨a, e3, vs, e4, rb⟩ := rs1.get ec
        rw [hm] at e3; cases e3
        refine ⟨_, _, rfl, .inl ⟨SqL.of e4, fun p hp => ?_⟩⟩
        exact q (m1 ++ [p]) _ _ (k1.trans (Step.push hp)) (push_lst rs1 hp rb.reverse) (obj_new rs1.len)
      · exact q.elim
    | frz ha ra =>
      refine ⟨_, _, rfl, .inl ⟨ha.l, fun p hp => ?_⟩⟩
      exact q (m1 ++ [p]) _ _ (k1.trans (Step.push hp)) (push_lst rs1 hp ra.reverse) (obj_new rs1.len)
    | tup ha ra =>
      refine ⟨_, _, rfl, .inr ⟨ha, fun p hp => ?_⟩⟩
      exact q m1 _ _ (k1.trans (Step.new hp)) (rs1.new hp) (.tup (SqT.of upd_same) (ra.reverse.mono (Step.new hp)))
    | _ => exact q.elim

/-! ### fields -/
/-- what is known of the classes: where they stand, which attributes no class has -/
structure ClsOk (K : PySem.W.Frag) (CA : ClsAt) (noat : List Nat → List Nat → Bool) : Prop where
  cls : ∀ c C, CA.at_ c = some C → Cls K C
  no : ∀ c C f, CA.at_ c = some C → noat c f = true → NoAttr K C (mkS f)
def wFld (noat : List Nat → List Nat → Bool) (wa : Wp) (f : List Nat) : Wp := fun ρ S Q => wa ρ S fun x S1 => match x with
  | .obj j => (match S1[j]? with
    | some (.ins c fs) => noat c f = true ∧ ∃ t, fs.lookup f = some t ∧ Q t S1
    | _ => False)
  | _ => False
theorem mono_fld {noat : List Nat → List Nat → Bool} {f : List Nat} (a : MonoW wa) : MonoW (wFld noat wa f) := fun _ _ _ _ k q => a _ _ _ _ (fun x S1 q => by
  cases x <;> simp only at q ⊢ <;> first | exact q.elim | skip
  split at q
  · obtain ⟨h1, t, h2, q⟩ := q
    exact ⟨h1, t, h2, k _ _ q⟩
  · exact q.elim) q
abbrev RelF (K : PySem.W.Frag) (H : Hp) (m : List Addr) : List (List Nat × T) → List (Str × V) → Prop := Paired fun (p : List Nat × T) (q : Str × V) => mkS p.1 = q.1 ∧ RelT K H m p.2 q.2
theorem mkS_beq (a b : List Nat) : (mkS a == mkS b) = (a == b) := by
  by_cases h : a = b
  · subst h; simp
  · have h2 : mkS a ≠ mkS b := fun z => h (mkS_inj z)
    rw [beq_eq_false_iff_ne.mpr h, beq_eq_false_iff_ne.mpr h2]
theorem relF_lookup {K : PySem.W.Frag} {H : Hp} {m : List Addr} {fs : List (List Nat × T)} {l : List (Str × V)} (r : RelF K H m fs l) (f : List Nat) :
    (fs.lookup f = none ∧ l.lookup (mkS f) = none) ∨ ∃ t v, fs.lookup f = some t ∧ l.lookup (mkS f) = some v ∧ RelT K H m t v := by
  induction r with
  | nil => exact .inl ⟨rfl, rfl⟩
  | @cons p q _ _ h _ ih =>
    obtain ⟨pn, pt⟩ := p
    obtain ⟨qn, qv⟩ := q
    obtain ⟨h1, h2⟩ := h
    simp only at h1 h2
    subst h1
    rw [List.lookup_cons, List.lookup_cons, mkS_beq]
    cases f == pn with
    | true => exact .inr ⟨pt, qv, rfl, rfl, h2⟩
    | false => exact ih
def plainBase : Expr → Bool
  | .Call (.Name _ _) [] [] _ => false
  | _ => true
theorem plainBase_ok {o : Expr} (h : plainBase o = true) (f : Str) (env : Env) (whole : Sem Value) : attributeBase o f env whole = whole := by
  unfold attributeBase
  split
  · cases h
  · rfl
theorem px_fld {noat : List Nat → List Nat → Bool} (K0 : ClsOk X.K CA noat) {f : Str} (ma : MonoW wa) (ha : PX X CA a wa) (hb : plainBase a = true) : PX X CA (.Attribute a f pos) (wFld noat wa f.cps.toList) :=
  PE.imp (pe_fld ha (plainBase_ok hb f X.env _)) fun σ H Q q => by
    obtain ⟨m, ρ, S, rs, re, q⟩ := q
    refine lift_of ma rs re q fun x S1 m1 H1 v k1 rs1 re1 rx q => ?_
    cases rx with
    | obj hm =>
      simp only at q
      split at q
      · rename_i c fs ec
        obtain ⟨h1, t, h2, q⟩ := q
        obtain ⟨a, e3, C, dx, l, hC, e4, rf⟩ := rs1.get ec
        rw [hm] at e3; cases e3
        rcases relF_lookup rf f.cps.toList with ⟨z, _⟩ | ⟨t', w, z1, z2, rw'⟩
        · rw [z] at h2; cases h2
        · rw [z1] at h2; cases h2
          rw [mkS_toList] at z2
          have hn := K0.no c C _ hC h1
          rw [mkS_toList] at hn
          exact ⟨_, C, dx, l, w, rfl, e4, K0.cls c C hC, hn, z2, q m1 H1 w k1 rs1 rw'⟩
      · exact q.elim
    | _ => exact q.elim
end
end TR
set_option Elab.async false
set_option linter.all false
set_option maxRecDepth 100000
set_option maxHeartbeats 2000000
/-! TR7: what is walked; targets; statements. -/
namespace TR
open PySem PySem.Spec L2
open PyProof.Rows hiding St

/-! ### walks -/
section
variable (K : PySem.W.Frag) (CA : ClsAt)
/-- the iterator yields xs one by one, as long as g is so of the cells -/
def Wk (J : It) (g : Sta → Prop) (m0 : List Addr) (H0 : Hp) (xs : List T) : Prop :=
  ∀ m H S, Kp m0 H0 m H → RelS K CA H m S → g S →
    (∀ i, xs.length ≤ i → J.stop i H) ∧ ∀ i t, xs[i]? = some t → J.go i H ∧ ∀ v H', J.yld i H v H' → Step m H m H' ∧ RelS K CA H' m S ∧ RelT K H' m t v
abbrev Wi := Ev → Sta → (List T → (Sta → Prop) → Sta → Prop) → Prop
def MonoI (w : Wi) : Prop := ∀ ρ S Q Q', (∀ xs g S', Q xs g S' → Q' xs g S') → w ρ S Q → w ρ S Q'
def liftI (w : Wi) : TI := fun σ H R => ∃ m ρ S, RelS K CA H m S ∧ RelE K H m ρ σ ∧ w ρ S fun xs g S' => ∀ m' H' J, Step m H m' H' → RelS K CA H' m' S' → Wk K CA J g m' H' xs → R J H'
end
theorem PI.imp {X : Cx} {tg e : Expr} {t t' : TI} (h : PI X tg e t) (i : ∀ σ H R, t' σ H R → t σ H R) : PI X tg e t' := ⟨fun pins s σ H R I hq => h.run pins s σ H R I (i σ H R hq)⟩
abbrev PXI (X : Cx) (CA : ClsAt) (tg e : Expr) (w : Wi) : Prop := PI X tg e (liftI X.K CA w)
def iterW (x : T) (S : Sta) (R : List T → (Sta → Prop) → Sta → Prop) : Prop :=
  match x with
  | .tup xs => R xs (fun _ => True) S
  | .frz xs => R xs (fun _ => True) S
  | .str z => R (z.map fun c => .str [c]) (fun _ => True) S
  | .obj j => match S[j]? with
    | some (.lst xs) => R xs (fun S => S[j]? = some (.lst xs)) S
    | _ => False
  | _ => False
theorem iterW_mono {x : T} {S : Sta} {R R' : List T → (Sta → Prop) → Sta → Prop} (h : ∀ xs g S', R xs g S' → R' xs g S') (q : iterW x S R) : iterW x S R' := by
  unfold iterW at q ⊢
  split <;> simp only at q
  · exact h _ _ _ q
  · exact h _ _ _ q
  · exact h _ _ _ q
  · split <;> rename_i e <;> simp only [e] at q
    exact h _ _ _ q
def wIt (wa : Wp) : Wi := fun ρ S R => wa ρ S fun x S1 => iterW x S1 R
theorem mono_it {wa : Wp} (a : MonoW wa) : MonoI (wIt wa) := fun _ _ _ _ h q => a _ _ _ _ (fun _ _ q => iterW_mono h q) q
/-- a value that is walked: a list, a tuple, a text -/
def iVal (K : PySem.W.Frag) (tl : TE) : TI := fun σ H R => tl σ H fun x H1 =>
  (∃ a, x = .ref a ∧ (∃ xs, SqL K H1 a xs) ∧ R (Itl K a) H1) ∨ (∃ a, x = .ref a ∧ (∃ xs, SqT K H1 a xs) ∧ R (Itt K a) H1) ∨ ∃ y, x = .str y ∧ R (Its y) H1
theorem pi_val {X : Cx} {tg l : Expr} {tl : TE} (hl : PE X l tl) : PI X tg l (iVal X.K tl) := by
  refine ⟨fun pins s σ H R I h => ?_⟩
  refine thn (hl.run pins s σ H _ I h) fun v s1 ⟨x, H1, I1, r1, q1⟩ => ?_
  rcases q1 with ⟨a, e, ⟨xs, hq⟩, q⟩ | ⟨a, e, ⟨xs, hq⟩, q⟩ | ⟨x, ex, q⟩
  · subst e
    cases r1
    obtain ⟨its, rv, p, hz⟩ := I1.list hq
    refine wpAny_pyIter_list p.isList ?_
    refine ⟨s1.heap.objs.size, [s1.heap.objs.size], _, _, H1, rfl, I1.kept (t' := s1.toks) fun b o e => Heap.get?_push_of_some _ e, turn_list a _, ⟨_, Heap.get?_push_size _ rfl, rfl, rfl⟩, fun b hb => ?_, q⟩
    have e : b = s1.heap.objs.size := by simpa using hb
    subst e
    exact I1.fpOk (Nat.le_refl _) (I1.hok.fresh (Nat.le_refl _))
  · subst e
    cases r1
    obtain ⟨its, rv, p, hz⟩ := I1.tuple hq
    refine wpAny_pyIter_tuple (show s1.heap.IsTuple a its.toArray from p) ?_
    refine ⟨s1.heap.objs.size, [s1.heap.objs.size], _, _, H1, rfl, I1.kept (t' := s1.toks) fun b o e => Heap.get?_push_of_some _ e, turn_tuple a _, ⟨_, Heap.get?_push_size _ rfl, rfl, rfl⟩, fun b hb => ?_, q⟩
    have e : b = s1.heap.objs.size := by simpa using hb
    subst e
    exact I1.fpOk (Nat.le_refl _) (I1.hok.fresh (Nat.le_refl _))
  · subst ex
    obtain ⟨t, rfl⟩ := r1
    cases ha : x.cps.all (· < 128)
    · exact wpAny_pyIter_wide ha (pi_one (tk := s1.toks) I1 _ (turn_str _ x t "str_iterator" (.inr rfl)) ⟨_, Heap.get?_push_size _ rfl, rfl, rfl⟩ q)
    · exact wpAny_pyIter_ascii ha (pi_one (tk := s1.toks) I1 _ (turn_str _ x t "str_ascii_iterator" (.inl rfl)) ⟨_, Heap.get?_push_size _ rfl, rfl, rfl⟩ q)
def rngT (lo : Int) (n : Nat) : List T := (List.range n).map fun i : Nat => .int (lo + (i : Int))
section
variable {X : Cx} {CA : ClsAt} {tg a b : Expr} {wa wb : Wp} {pos : Pos}
/-- a fixed sequence of values -/
theorem wk_list {K : PySem.W.Frag} {CA : ClsAt} {m0 : List Addr} {H0 : Hp} {p : Addr} {ts : List T} {vs : List V} {g : Sta → Prop} (hl : ∀ m H S, Kp m0 H0 m H → RelS K CA H m S → g S → ∃ vs, SqL K H p vs ∧ RelTs K H m ts vs) (inj : ∀ H vs ws, SqL K H p vs → SqL K H p ws → True) : Wk K CA (Itl K p) g m0 H0 ts := by
  intro m H S st rs gs
  obtain ⟨vs, h1, h2⟩ := hl m H S st rs gs
  refine ⟨fun i hi => ⟨vs, h1, by rw [← h2.length]; exact hi⟩, fun i t e => ?_⟩
  obtain ⟨v, e2, rv⟩ := h2.get e
  refine ⟨⟨vs, v, h1, e2⟩, fun w H' y => ?_⟩
  obtain ⟨rfl, y⟩ := y
  have e3 := y vs h1
  rw [e2] at e3
  cases e3
  exact ⟨.rfl', rs, rv⟩
theorem wk_tup {K : PySem.W.Frag} {CA : ClsAt} {m0 : List Addr} {H0 : Hp} {p : Addr} {ts : List T} {vs : List V} (h1 : SqT K H0 p vs) (h2 : RelTs K H0 m0 ts vs) : Wk K CA (Itt K p) (fun _ => True) m0 H0 ts := by
  intro m H S st rs _
  have h1 := st.sqt h1
  have h2 := h2.monoK st
  refine ⟨fun i hi => ⟨vs, h1, by rw [← h2.length]; exact hi⟩, fun i t e => ?_⟩
  obtain ⟨v, e2, rv⟩ := h2.get e
  refine ⟨⟨vs, v, h1, e2⟩, fun w H' y => ?_⟩
  obtain ⟨rfl, y⟩ := y
  have e3 := y vs h1
  rw [e2] at e3
  cases e3
  exact ⟨.rfl', rs, rv⟩
theorem wk_str {K : PySem.W.Frag} {CA : ClsAt} {m0 : List Addr} {H0 : Hp} (z : List Nat) : Wk K CA (Its (mkS z)) (fun _ => True) m0 H0 (z.map fun c => .str [c]) := by
  intro m H S st rs _
  refine ⟨fun i hi => by show (mkS z).cps.size ≤ i; simpa [mkS] using hi, fun i t e => ?_⟩
  rw [List.getElem?_map] at e
  cases q : z[i]? with
  | none => rw [q] at e; cases e
  | some c =>
    rw [q] at e
    cases e
    have hi := (List.getElem?_eq_some_iff.mp q).1
    refine ⟨by show i < (mkS z).cps.size; simpa [mkS] using hi, fun v H' y => ?_⟩
    obtain ⟨rfl, c', e2, rfl⟩ := y
    have : (mkS z).cps[i]? = z[i]? := by simp [mkS]
    rw [this, q] at e2
    cases e2
    exact ⟨.rfl', rs, .str [c]⟩
theorem wk_rng {K : PySem.W.Frag} {CA : ClsAt} {m0 : List Addr} {H0 : Hp} (lo : Int) (n : Nat) : Wk K CA (Itr lo n) (fun _ => True) m0 H0 (rngT lo n) := by
  intro m H S st rs _
  refine ⟨fun i hi => by show n ≤ i; simpa [rngT] using hi, fun i t e => ?_⟩
  unfold rngT at e
  rw [List.getElem?_map] at e
  by_cases hi : i < n
  · rw [List.getElem?_range hi] at e
    cases e
    refine ⟨hi, fun v H' y => ?_⟩
    obtain ⟨rfl, rfl⟩ := y
    exact ⟨.rfl', rs, .int _⟩
  · rw [List.getElem?_eq_none (by simpa using Nat.le_of_not_lt hi)] at e
    cases e
theorem pxi_val (ma : MonoW wa) (ha : PX X CA a wa) : PXI X CA tg a (wIt wa) :=
  PI.imp (pi_val ha) fun σ H R q => by
    obtain ⟨m, ρ, S, rs, re, q⟩ := q
    refine lift_of ma rs re q fun x S1 m1 H1 v k1 rs1 re1 rx q => ?_
    unfold iterW at q
    cases rx with
    | tup hs rt => exact .inr (.inl ⟨_, rfl, ⟨_, hs⟩, q m1 H1 _ k1 rs1 (wk_tup hs rt)⟩)
    | @frz ts vs p hs rt =>
      refine .inl ⟨_, rfl, ⟨_, hs.l⟩, q m1 H1 _ k1 rs1 (wk_list (vs := vs) (fun m H S st rs _ => ⟨_, (st.sqf hs).l, rt.monoK st⟩) fun _ _ _ _ _ => trivial)⟩
    | str z => exact .inr (.inr ⟨_, rfl, q m1 H1 _ k1 rs1 (wk_str z)⟩)
    | @obj i p hm =>
      simp only at q
      split at q
      · rename_i ts ec
        obtain ⟨a, e3, vs, e4, rb⟩ := rs1.get ec
        rw [hm] at e3; cases e3
        refine .inl ⟨_, rfl, ⟨_, SqL.of e4⟩, q m1 H1 _ k1 rs1 (wk_list (vs := vs) (fun m H S st rs gs => ?_) fun _ _ _ _ _ => trivial)⟩
        obtain ⟨a, e5, vs', e6, rb'⟩ := rs.get gs
        have e7 := pre_get st.pre hm
        rw [e5] at e7; cases e7
        exact ⟨vs', SqL.of e6, rb'⟩
      · exact q.elim
    | _ => exact q.elim
def wRng1 (wa : Wp) : Wi := fun ρ S R => wa ρ S fun x S1 => match x with
  | .int j => -(2 ^ 62) ≤ j ∧ j < 2 ^ 62 ∧ R (rngT 0 j.toNat) (fun _ => True) S1
  | _ => False
def wRng2 (wa wb : Wp) : Wi := fun ρ S R => wa ρ S fun x S1 => wb ρ S1 fun y S2 => match x, y with
  | .int i, .int j => (-(2 ^ 62) ≤ i ∧ i < 2 ^ 62 ∧ -(2 ^ 62) ≤ j ∧ j < 2 ^ 62) ∧ R (rngT i (j - i).toNat) (fun _ => True) S2
  | _, _ => False
theorem mono_rng1 (a : MonoW wa) : MonoI (wRng1 wa) := fun _ _ _ _ h q => a _ _ _ _ (fun x S1 q => by
  cases x <;> simp only at q ⊢ <;> first | exact q.elim | exact ⟨q.1, q.2.1, h _ _ _ q.2.2⟩) q
theorem mono_rng2 (a : MonoW wa) (b : MonoW wb) : MonoI (wRng2 wa wb) := fun _ _ _ _ h q => a _ _ _ _ (fun x S1 q => b _ _ _ _ (fun y S2 q => by
  split <;> simp only at q
  exact ⟨q.1, h _ _ _ q.2⟩) q) q
theorem pxi_range1 {p : Pos} (ma : MonoW wa) (hg : Gl X "range") (hm : X.mg "range" = none) (ha : PX X CA a wa) (hs : starEach [a] X.env = [(false, eval a X.env)]) : PXI X CA tg (.Call (.Name "range" p) [a] [] pos) (wRng1 wa) :=
  PI.imp (pi_range1 hg hm (pa_cons ha pa_nil hs) hs) fun σ H R q => by
    obtain ⟨m, ρ, S, rs, re, q⟩ := q
    refine lift_of ma rs re q fun x S1 m1 H1 v k1 rs1 re1 rx q => ?_
    cases rx with
    | int j =>
      obtain ⟨h1, h2, q⟩ := q
      exact ⟨j, rfl, h1, h2, q m1 H1 _ k1 rs1 (wk_rng 0 j.toNat)⟩
    | _ => exact q.elim
theorem pxi_range2 {p : Pos} (ma : MonoW wa) (mb : MonoW wb) (hg : Gl X "range") (hm : X.mg "range" = none) (ha : PX X CA a wa) (hb : PX X CA b wb) (hs : starEach [a, b] X.env = [(false, eval a X.env), (false, eval b X.env)]) (hs2 : starEach [b] X.env = [(false, eval b X.env)]) :
    PXI X CA tg (.Call (.Name "range" p) [a, b] [] pos) (wRng2 wa wb) :=
  PI.imp (pi_range2 hg hm (pa_cons ha (pa_cons hb pa_nil hs2) (by rw [hs, hs2])) hs hs2) fun σ H R q => by
    obtain ⟨m, ρ, S, rs, re, q⟩ := q
    refine lift_of ma rs re q fun x S1 m1 H1 v k1 rs1 re1 rx q => ?_
    refine lift_of mb rs1 re1 q fun y S2 m2 H2 u k2 rs2 re2 ry q => ?_
    split at q
    · cases rx; cases ry
      exact ⟨_, _, rfl, q.1, q.2 m2 H2 _ (k1.trans k2) rs2 (wk_rng _ _)⟩
    · exact q.elim
end

/-! ### zip -/
def zipT (xs ys : List T) : List T := List.zipWith (fun a b => .tup [a, b]) xs ys
def zipW (x y : T) (S : Sta) (R : List T → (Sta → Prop) → Sta → Prop) : Prop :=
  match x, y with
  | .tup xs, .tup ys => R (zipT xs ys) (fun _ => True) S
  | .obj i, .obj j => ∃ xs ys, S[i]? = some (.lst xs) ∧ S[j]? = some (.lst ys) ∧ R (zipT xs ys) (fun S => S[i]? = some (.lst xs) ∧ S[j]? = some (.lst ys)) S
  | _, _ => False
theorem zipW_mono {x y : T} {S : Sta} {R R' : List T → (Sta → Prop) → Sta → Prop} (h : ∀ xs g S', R xs g S' → R' xs g S') (q : zipW x y S R) : zipW x y S R' := by
  unfold zipW at q ⊢
  split <;> simp only at q
  · exact h _ _ _ q
  · obtain ⟨xs, ys, h1, h2, q⟩ := q
    exact ⟨xs, ys, h1, h2, h _ _ _ q⟩
def wZip (wa wb : Wp) : Wi := fun ρ S R => wa ρ S fun x S1 => wb ρ S1 fun y S2 => zipW x y S2 R
theorem mono_zip {wa wb : Wp} (a : MonoW wa) (b : MonoW wb) : MonoI (wZip wa wb) := fun _ _ _ _ h q => a _ _ _ _ (fun _ _ q => b _ _ _ _ (fun _ _ q => zipW_mono h q) q) q
theorem zipT_get {xs ys : List T} {i : Nat} {t : T} (e : (zipT xs ys)[i]? = some t) : ∃ a b, xs[i]? = some a ∧ ys[i]? = some b ∧ t = .tup [a, b] := by
  unfold zipT at e
  rw [List.getElem?_zipWith] at e
  cases h1 : xs[i]? with
  | none => rw [h1] at e; cases e
  | some a =>
    cases h2 : ys[i]? with
    | none => rw [h1, h2] at e; cases e
    | some b =>
      rw [h1, h2] at e
      cases e
      exact ⟨a, b, rfl, rfl, rfl⟩
theorem zipT_len {xs ys : List T} : (zipT xs ys).length = min xs.length ys.length := by
  unfold zipT
  rw [List.length_zipWith]
theorem zip_step {K : PySem.W.Frag} {CA : ClsAt} {m : List Addr} {H : Hp} {S : Sta} {p : Addr} {a b : T} {u v : V} (rs : RelS K CA H m S) (hp : H p = none) (r1 : RelT K H m a u) (r2 : RelT K H m b v) :
    Step m H m (upd H p (.tup [u, v])) ∧ RelS K CA (upd H p (.tup [u, v])) m S ∧ RelT K (upd H p (.tup [u, v])) m (.tup [a, b]) (.ref p) :=
  ⟨Step.new hp, rs.new hp, .tup (SqT.of upd_same) (.cons (r1.mono (Step.new hp)) (.cons (r2.mono (Step.new hp)) .nil))⟩
theorem wk_zipT {K : PySem.W.Frag} {CA : ClsAt} {m0 : List Addr} {H0 : Hp} {p q : Addr} {xs ys : List T} {vs us : List V} (h1 : SqT K H0 p vs) (h2 : SqT K H0 q us) (r1 : RelTs K H0 m0 xs vs) (r2 : RelTs K H0 m0 ys us) : Wk K CA (RZ.ItzT K p q) (fun _ => True) m0 H0 (zipT xs ys) := by
  intro m H S st rs _
  have h1 := st.sqt h1
  have h2 := st.sqt h2
  have r1 := r1.monoK st
  have r2 := r2.monoK st
  refine ⟨fun i hi => ⟨vs, us, h1, h2, ?_⟩, fun i t e => ?_⟩
  · rw [zipT_len] at hi
    rw [← r1.length, ← r2.length]
    omega
  · obtain ⟨a, b, e1, e2, rfl⟩ := zipT_get e
    obtain ⟨u, f1, ra⟩ := r1.get e1
    obtain ⟨v, f2, rb⟩ := r2.get e2
    refine ⟨⟨vs, us, u, v, h1, h2, f1, f2⟩, fun w H' y => ?_⟩
    obtain ⟨T, x', y', rfl, hT, rfl, g1, g2⟩ := y
    have e3 := g1 vs h1
    have e4 := g2 us h2
    rw [f1] at e3
    rw [f2] at e4
    cases e3
    cases e4
    exact zip_step rs hT ra rb
theorem wk_zipL {K : PySem.W.Frag} {CA : ClsAt} {m0 : List Addr} {H0 : Hp} {p q : Addr} {i j : Nat} {xs ys : List T} (hp : m0[i]? = some p) (hq : m0[j]? = some q) : Wk K CA (Itz K p q) (fun S => S[i]? = some (.lst xs) ∧ S[j]? = some (.lst ys)) m0 H0 (zipT xs ys) := by
  intro m H S st rs gs
  obtain ⟨a, e3, vs, e4, r1⟩ := rs.get gs.1
  obtain ⟨b, e5, us, e6, r2⟩ := rs.get gs.2
  have e7 := pre_get st.pre hp
  rw [e3] at e7; cases e7
  have e8 := pre_get st.pre hq
  rw [e5] at e8; cases e8
  have h1 : SqL K H p vs := SqL.of e4
  have h2 : SqL K H q us := SqL.of e6
  refine ⟨fun i hi => ⟨vs, us, h1, h2, ?_⟩, fun i t e => ?_⟩
  · rw [zipT_len] at hi
    rw [← r1.length, ← r2.length]
    omega
  · obtain ⟨a, b, e1, e2, rfl⟩ := zipT_get e
    obtain ⟨u, f1, ra⟩ := r1.get e1
    obtain ⟨v, f2, rb⟩ := r2.get e2
    refine ⟨⟨vs, us, u, v, h1, h2, f1, f2⟩, fun w H' y => ?_⟩
    obtain ⟨T, x', y', rfl, hT, rfl, g1, g2⟩ := y
    have e3 := g1 vs h1
    have e4 := g2 us h2
    rw [f1] at e3
    rw [f2] at e4
    cases e3
    cases e4
    exact zip_step rs hT ra rb
section
variable {X : Cx} {CA : ClsAt} {a b : Expr} {wa wb : Wp} {pos : Pos}
theorem pxi_zip {p tpos : Pos} {elts : List Expr} {kk : Nat} (ma : MonoW wa) (mb : MonoW wb) (hg : Gl X "zip") (hm : X.mg "zip" = none) (ha : PX X CA a wa) (hb : PX X CA b wb) (hs : starEach [a, b] X.env = (false, eval a X.env) :: starEach [b] X.env) (hs2 : starEach [b] X.env = (false, eval b X.env) :: starEach [] X.env) :
    PXI X CA (.Tuple elts kk tpos) (.Call (.Name "zip" p) [a, b] [] pos) (wZip wa wb) :=
  PI.imp (RZ.pi_zipA hg hm (pa_cons ha (pa_cons hb pa_nil hs2) hs) hs (by rw [hs2]; rfl)) fun σ H R q => by
    obtain ⟨m, ρ, S, rs, re, q⟩ := q
    refine lift_of ma rs re q fun x S1 m1 H1 v k1 rs1 re1 rx q => ?_
    refine lift_of mb rs1 re1 q fun y S2 m2 H2 u k2 rs2 re2 ry q => ?_
    have rx := rx.mono k2
    unfold zipW at q
    split at q
    · cases rx with
      | tup h1 r1 =>
        cases ry with
        | tup h2 r2 => exact ⟨_, _, _, _, rfl, .inr ⟨h1, h2, q m2 H2 _ (k1.trans k2) rs2 (wk_zipT h1 h2 r1 r2)⟩⟩
    · cases rx with
      | obj hp =>
        cases ry with
        | obj hq =>
          obtain ⟨xs, ys, ec1, ec2, q⟩ := q
          obtain ⟨a', e3, vs, e4, r1⟩ := rs2.get ec1
          obtain ⟨b', e5, us, e6, r2⟩ := rs2.get ec2
          rw [hp] at e3; cases e3
          rw [hq] at e5; cases e5
          exact ⟨_, _, _, _, rfl, .inl ⟨SqL.of e4, SqL.of e6, q m2 H2 _ (k1.trans k2) rs2 (wk_zipL hp hq)⟩⟩
    · exact q.elim
end

/-! ### targets -/
abbrev Wg := T → Ev → Sta → (Ev → Sta → Prop) → Prop
abbrev Wgs := List T → Ev → Sta → (Ev → Sta → Prop) → Prop
def MonoG (w : Wg) : Prop := ∀ t ρ S Q Q', (∀ ρ S, Q ρ S → Q' ρ S) → w t ρ S Q → w t ρ S Q'
def MonoGs (w : Wgs) : Prop := ∀ t ρ S Q Q', (∀ ρ S, Q ρ S → Q' ρ S) → w t ρ S Q → w t ρ S Q'
section
variable (K : PySem.W.Frag) (CA : ClsAt)
def AfterE (m : List Addr) (H : Hp) (Q : L2.St → Hp → Prop) (ρ : Ev) (S : Sta) : Prop := ∀ m' H' σ', Step m H m' H' → RelS K CA H' m' S → RelE K H' m' ρ σ' → Q σ' H'
def liftG (w : Wg) : TG := fun v σ H Q => ∃ m ρ S t, RelS K CA H m S ∧ RelE K H m ρ σ ∧ RelT K H m t v ∧ w t ρ S (AfterE K CA m H Q)
def liftGs (w : Wgs) : TGs := fun vs σ H Q => ∃ m ρ S ts, RelS K CA H m S ∧ RelE K H m ρ σ ∧ RelTs K H m ts vs ∧ w ts ρ S (AfterE K CA m H Q)
end
theorem PG.imp {X : Cx} {tg : Expr} {t t' : TG} (h : PG X tg t) (i : ∀ v σ H R, t' v σ H R → t v σ H R) : PG X tg t' := ⟨fun pins s σ H v u R I r hq => h.run pins s σ H v u R I r (i v σ H R hq)⟩
theorem PGs.imp {X : Cx} {tg : List Expr} {t t' : TGs} (h : PGs X tg t) (i : ∀ v σ H R, t' v σ H R → t v σ H R) : PGs X tg t' := ⟨fun pins s σ H v u R I r hq => h.run pins s σ H v u R I r (i v σ H R hq)⟩
theorem PG.or {X : Cx} {tg : Expr} {t t' : TG} (h : PG X tg t) (h' : PG X tg t') : PG X tg (fun v σ H Q => t v σ H Q ∨ t' v σ H Q) := ⟨fun pins s σ H v u R I r hq => by
  rcases hq with hq | hq
  · exact h.run pins s σ H v u R I r hq
  · exact h'.run pins s σ H v u R I r hq⟩
abbrev PXG (X : Cx) (CA : ClsAt) (e : Expr) (w : Wg) : Prop := PG X e (liftG X.K CA w)
abbrev PXGs (X : Cx) (CA : ClsAt) (e : List Expr) (w : Wgs) : Prop := PGs X e (liftGs X.K CA w)
theorem relE_set {K : PySem.W.Frag} {H : Hp} {m : List Addr} {t : T} {v : V} (h : RelT K H m t v) : ∀ {ρ : Ev} {σ : L2.St} (i : Nat), RelE K H m ρ σ → RelE K H m (ρ.set i (some t)) (σ.set i (some v))
  | _, _, _, .nil => .nil
  | _, _, 0, .cons _ r => .cons h r
  | _, _, i + 1, .cons q r => .cons q (relE_set h i r)
section
variable {X : Cx} {CA : ClsAt} {pos : Pos}
def wgN (i : Nat) : Wg := fun t ρ S Q => Q (ρ.set i (some t)) S
theorem mono_gN {i : Nat} : MonoG (wgN i) := fun _ _ _ _ _ h q => h _ _ q
theorem pxg_name {i : Nat} {x : Str} (hN : X.N.Nodup) (hi : X.N[i]? = some x) (hx : Loc X.env.scope x) (hf : X.fn x = true ∨ X.env.scope.names.lookup x = some .local) : PXG X CA (.Name x pos) (wgN i) :=
  PG.imp (pg_name hN hi hx hf) fun v σ H Q q => by
    obtain ⟨m, ρ, S, t, rs, re, rt, q⟩ := q
    exact q m H _ .rfl' rs (relE_set rt i re)
def wgNil : Wgs := fun ts ρ S Q => ts = [] ∧ Q ρ S
def wgCons (w : Wg) (ws : Wgs) : Wgs := fun ts ρ S Q => match ts with
  | t :: ts => w t ρ S fun ρ1 S1 => ws ts ρ1 S1 Q
  | [] => False
theorem mono_gnil : MonoGs wgNil := fun _ _ _ _ _ h q => ⟨q.1, h _ _ q.2⟩
theorem mono_gcons {w : Wg} {ws : Wgs} (a : MonoG w) (b : MonoGs ws) : MonoGs (wgCons w ws) := fun ts _ _ _ _ h q => by
  cases ts with
  | nil => exact q
  | cons t ts => exact a _ _ _ _ _ (fun _ _ q => b _ _ _ _ _ h q) q
theorem pxgs_nil : PXGs X CA [] wgNil := PGs.imp pgs_nil fun v σ H Q q => by
  obtain ⟨m, ρ, S, t, rs, re, rt, rfl, q⟩ := q
  cases rt
  exact ⟨rfl, q m H σ .rfl' rs re⟩
theorem pxgs_cons {e : Expr} {es : List Expr} {w : Wg} {ws : Wgs} (ma : MonoG w) (mb : MonoGs ws) (h : PXG X CA e w) (hs : PXGs X CA es ws) (he : (assignEach (e :: es) X.env).map (·.2) = assign e X.env :: (assignEach es X.env).map (·.2)) : PXGs X CA (e :: es) (wgCons w ws) :=
  PGs.imp (pgs_cons h hs he) fun v σ H Q q => by
    obtain ⟨m, ρ, S, ts, rs, re, rt, q⟩ := q
    cases rt with
    | nil => exact q.elim
    | @cons t ts v vs r rr =>
      refine ⟨v, vs, rfl, m, ρ, S, t, rs, re, r, ma _ _ _ _ _ (fun ρ1 S1 q => ?_) q⟩
      intro m1 H1 σ1 k1 rs1 re1
      refine ⟨m1, ρ1, S1, ts, rs1, re1, rr.mono k1, mb _ _ _ _ _ (fun ρ2 S2 q => ?_) q⟩
      intro m2 H2 σ2 k2 rs2 re2
      exact q m2 H2 σ2 (k1.trans k2) rs2 re2
/-- (a, b, ..) = a tuple or a list of so many -/
def wgTup (n : Nat) (ws : Wgs) : Wg := fun t ρ S Q => match t with
  | .tup ts => ts.length = n ∧ ws ts ρ S Q
  | .frz ts => ts.length = n ∧ ws ts ρ S Q
  | .obj i => (match S[i]? with
    | some (.lst ts) => ts.length = n ∧ ws ts ρ S Q
    | _ => False)
  | _ => False
theorem mono_gtup {n : Nat} {ws : Wgs} (b : MonoGs ws) : MonoG (wgTup n ws) := fun t _ _ _ _ h q => by
  cases t <;> simp only [wgTup] at q ⊢ <;> first | exact q.elim | exact ⟨q.1, b _ _ _ _ _ h q.2⟩ | skip
  split at q
  · exact ⟨q.1, b _ _ _ _ _ h q.2⟩
  · exact q.elim
theorem pxg_tup {es : List Expr} {k : Nat} {ws : Wgs} {n : Nat} (hc : X.calm = true) (h : PXGs X CA es ws) (hn : (assignEach es X.env).length = n) (hst : (assignEach es X.env).findIdx? (·.1) = none) : PXG X CA (.Tuple es k pos) (wgTup n ws) :=
  PG.imp (PG.or (pg_tup hc h hn hst) (pg_lst hc h hn hst)) fun v σ H Q q => by
    obtain ⟨m, ρ, S, t, rs, re, rt, q⟩ := q
    cases rt with
    | tup hs rr => exact .inl ⟨_, _, rfl, hs, by rw [← rr.length]; exact q.1, m, ρ, S, _, rs, re, rr, q.2⟩
    | frz hs rr => exact .inr ⟨_, _, rfl, hs.l, by rw [← rr.length]; exact q.1, m, ρ, S, _, rs, re, rr, q.2⟩
    | obj hm =>
      simp only [wgTup] at q
      split at q
      · rename_i ts ec
        obtain ⟨a, e3, vs, e4, rb⟩ := rs.get ec
        rw [hm] at e3; cases e3
        exact .inr ⟨_, _, rfl, SqL.of e4, by rw [← rb.length]; exact q.1, m, ρ, S, _, rs, re, rb, q.2⟩
      · exact q.elim
    | _ => exact q.elim
end
end TR
set_option Elab.async false
set_option linter.all false
set_option maxRecDepth 100000
set_option maxHeartbeats 2000000
/-! TR8: statements. -/
namespace TR
open PySem PySem.Spec L2
open PyProof.Rows hiding St

/-- what is wanted behind a statement -/
structure En where
  nx : Ev → Sta → Prop
  rt : T → Sta → Prop
  bk : Ev → Sta → Prop := fun _ _ => False
  ct : Ev → Sta → Prop := fun _ _ => False
structure En.Le (D D' : En) : Prop where
  nx : ∀ ρ S, D.nx ρ S → D'.nx ρ S
  rt : ∀ t S, D.rt t S → D'.rt t S
  bk : ∀ ρ S, D.bk ρ S → D'.bk ρ S
  ct : ∀ ρ S, D.ct ρ S → D'.ct ρ S
abbrev Ws := En → Ev → Sta → Prop
def MonoS (w : Ws) : Prop := ∀ D D' ρ S, D.Le D' → w D ρ S → w D' ρ S
section
variable (K : PySem.W.Frag) (CA : ClsAt)
def endsOf (m : List Addr) (H : Hp) (D : Ends) : En := ⟨AfterE K CA m H D.nx, After K CA m H D.rt, AfterE K CA m H D.bk, AfterE K CA m H D.ct⟩
def liftS (w : Ws) : TS := fun D σ H => ∃ m ρ S, RelS K CA H m S ∧ RelE K H m ρ σ ∧ w (endsOf K CA m H D) ρ S
end
theorem endsOf_le {K : PySem.W.Frag} {CA : ClsAt} {m m' : List Addr} {H H' : Hp} {D : Ends} (k : Step m H m' H') : (endsOf K CA m H D).Le (endsOf K CA m' H' D) :=
  ⟨fun ρ S q m2 H2 σ2 k2 => q m2 H2 σ2 (k.trans k2), fun t S q m2 H2 v k2 => q m2 H2 v (k.trans k2), fun ρ S q m2 H2 σ2 k2 => q m2 H2 σ2 (k.trans k2), fun ρ S q m2 H2 σ2 k2 => q m2 H2 σ2 (k.trans k2)⟩
theorem PS.imp {X : Cx} {st : Stmt} {t t' : TS} (h : PS X st t) (i : ∀ D σ H, t' D σ H → t D σ H) : PS X st t' := ⟨fun pins s σ H D I hq => h.run pins s σ H D I (i D σ H hq)⟩
theorem PSs.imp {X : Cx} {st : List Stmt} {t t' : TS} (h : PSs X st t) (i : ∀ D σ H, t' D σ H → t D σ H) : PSs X st t' := ⟨fun pins s σ H D I hq => h.run pins s σ H D I (i D σ H hq)⟩
abbrev PXS (X : Cx) (CA : ClsAt) (st : Stmt) (w : Ws) : Prop := PS X st (liftS X.K CA w)
abbrev PXSs (X : Cx) (CA : ClsAt) (st : List Stmt) (w : Ws) : Prop := PSs X st (liftS X.K CA w)
def wsN : Ws := fun D ρ S => D.nx ρ S
def wsSeq (w1 w2 : Ws) : Ws := fun D ρ S => w1 { D with nx := w2 D } ρ S
theorem mono_sN : MonoS wsN := fun _ _ _ _ h q => h.nx _ _ q
theorem mono_seq {w1 w2 : Ws} (a : MonoS w1) (b : MonoS w2) : MonoS (wsSeq w1 w2) := fun D D' _ _ h q => a { D with nx := w2 D } _ _ _ ⟨fun ρ S q => b _ _ _ _ h q, h.rt, h.bk, h.ct⟩ q
section
variable {X : Cx} {CA : ClsAt} {pos : Pos} {st : Stmt} {rest : List Stmt} {w1 w2 : Ws} {e a : Expr} {w wa : Wp}
theorem pxss_nil : PXSs X CA [] wsN := PSs.imp pss_nil fun D σ H q => by
  obtain ⟨m, ρ, S, rs, re, q⟩ := q
  exact q m H σ .rfl' rs re
theorem pxss_cons (m1 : MonoS w1) (m2 : MonoS w2) (h1 : PXS X CA st w1) (h2 : PXSs X CA rest w2) : PXSs X CA (st :: rest) (wsSeq w1 w2) :=
  PSs.imp (pss_cons h1 h2) fun D σ H q => by
    obtain ⟨m, ρ, S, rs, re, q⟩ := q
    refine ⟨m, ρ, S, rs, re, m1 { endsOf X.K CA m H D with nx := w2 (endsOf X.K CA m H D) } _ _ _ ⟨fun ρ1 S1 q => ?_, fun _ _ q => q, fun _ _ q => q, fun _ _ q => q⟩ q⟩
    intro m1 H1 σ1 k1 rs1 re1
    exact ⟨m1, ρ1, S1, rs1, re1, m2 _ _ _ _ (endsOf_le k1) q⟩
theorem pxs_pass : PXS X CA (.Pass pos) wsN := PS.imp ps_pass fun D σ H q => by
  obtain ⟨m, ρ, S, rs, re, q⟩ := q
  exact q m H σ .rfl' rs re
def wsBrk : Ws := fun D ρ S => D.bk ρ S
def wsCnt : Ws := fun D ρ S => D.ct ρ S
theorem mono_brk : MonoS wsBrk := fun _ _ _ _ h q => h.bk _ _ q
theorem mono_cnt : MonoS wsCnt := fun _ _ _ _ h q => h.ct _ _ q
theorem pxs_break : PXS X CA (.Break pos) wsBrk := PS.imp ps_break fun D σ H q => by
  obtain ⟨m, ρ, S, rs, re, q⟩ := q
  exact q m H σ .rfl' rs re
theorem pxs_continue : PXS X CA (.Continue pos) wsCnt := PS.imp ps_continue fun D σ H q => by
  obtain ⟨m, ρ, S, rs, re, q⟩ := q
  exact q m H σ .rfl' rs re
def wsX (w : Wp) : Ws := fun D ρ S => w ρ S fun _ S1 => D.nx ρ S1
theorem mono_sX (a : MonoW w) : MonoS (wsX w) := fun _ _ _ _ h q => a _ _ _ _ (fun _ _ q => h.nx _ _ q) q
def notComp : Expr → Bool
  | .ListComp _ _ _ _ => false
  | .SetComp _ _ _ _ => false
  | .DictComp _ _ _ _ _ => false
  | _ => true
theorem notComp_ok {e : Expr} (h : notComp e = true) (t : Option Expr) (line : Nat) (env : Env) : swapsWith e t line env = pure false := by
  cases e <;> first | rfl | cases h
theorem pxs_expr (ma : MonoW w) (h : PXT X CA e (wT w) ∨ True) (he : PX X CA e w) (hc : notComp e = true) : PXS X CA (.Expr e pos) (wsX w) :=
  PS.imp (ps_expr he (notComp_ok hc _ _ _)) fun D σ H q => by
    obtain ⟨m, ρ, S, rs, re, q⟩ := q
    refine lift_of ma rs re q fun x S1 m1 H1 v k1 rs1 re1 rx q => ?_
    exact q m1 H1 σ k1 rs1 re1
def wsR (w : Wp) : Ws := fun D ρ S => w ρ S D.rt
theorem mono_sR (a : MonoW w) : MonoS (wsR w) := fun _ _ _ _ h q => a _ _ _ _ (fun _ _ q => h.rt _ _ q) q
theorem pxs_ret (ma : MonoW w) (he : PX X CA e w) : PXS X CA (.Return (some e) pos) (wsR w) :=
  PS.imp (ps_ret he) fun D σ H q => by
    obtain ⟨m, ρ, S, rs, re, q⟩ := q
    exact ⟨m, ρ, S, rs, re, q⟩
def wsIf (wc : Wp) (w1 w2 : Ws) : Ws := fun D ρ S => wc ρ S fun x S1 => truW x S1 fun b => if b = true then w1 D ρ S1 else w2 D ρ S1
theorem mono_sIf (c : MonoW w) (a : MonoS w1) (b : MonoS w2) : MonoS (wsIf w w1 w2) := fun _ _ _ _ h q => c _ _ _ _ (fun _ _ q => truW_mono (fun k q => by
  cases k with
  | true => exact a _ _ _ _ h q
  | false => exact b _ _ _ _ h q) q) q
theorem pxs_if {s1 s2 : List Stmt} (mc : MonoW w) (ma : MonoS w1) (mb : MonoS w2) (hc : PXT X CA e (wT w)) (h1 : PXSs X CA s1 w1) (h2 : PXSs X CA s2 w2) : PXS X CA (.If e s1 s2 pos) (wsIf w w1 w2) :=
  PS.imp (ps_if hc h1 h2) fun D σ H q => by
    obtain ⟨m, ρ, S, rs, re, q⟩ := q
    refine liftT_of (w := wT w) (mono_T mc) rs re q fun k S1 m1 H1 k1 rs1 re1 q => ?_
    cases k with
    | true => exact ⟨m1, ρ, S1, rs1, re1, ma _ _ _ _ (endsOf_le k1) q⟩
    | false => exact ⟨m1, ρ, S1, rs1, re1, mb _ _ _ _ (endsOf_le k1) q⟩
/-! stores -/
def wsAsg (w : Wp) (g : Wg) : Ws := fun D ρ S => w ρ S fun t S1 => g t ρ S1 D.nx
theorem mono_asg {g : Wg} (a : MonoW w) (b : MonoG g) : MonoS (wsAsg w g) := fun _ _ _ _ h q => a _ _ _ _ (fun _ _ q => b _ _ _ _ _ (fun _ _ q => h.nx _ _ q) q) q
theorem tAsg_of {g : Wg} (ma : MonoW w) (mg : MonoG g) {D : Ends} {σ : L2.St} {H : Hp} (q : liftS X.K CA (wsAsg w g) D σ H) : tAsg (lift X.K CA w) (liftG X.K CA g) D σ H := by
  obtain ⟨m, ρ, S, rs, re, q⟩ := q
  refine lift_of ma rs re q fun x S1 m1 H1 v k1 rs1 re1 rx q => ?_
  exact ⟨m1, ρ, S1, x, rs1, re1, rx, mg _ _ _ _ _ (fun ρ2 S2 q m2 H2 σ2 k2 => q m2 H2 σ2 (k1.trans k2)) q⟩
theorem pxs_set {i : Nat} {x : Str} {pos' : Pos} (ma : MonoW w) (hN : X.N.Nodup) (hi : X.N[i]? = some x) (hx : Loc X.env.scope x) (he : PX X CA e w) (hs : swapsWith e (some (.Name x pos')) pos.line X.env = pure false) (hf : X.fn x = true ∨ X.env.scope.names.lookup x = some .local) :
    PXS X CA (.Assign [.Name x pos'] e pos) (wsAsg w (wgN i)) :=
  PS.imp (ps_set hN hi hx he hs hf) fun D σ H q => by
    obtain ⟨m, ρ, S, rs, re, q⟩ := q
    refine lift_of ma rs re q fun t S1 m1 H1 v k1 rs1 re1 rx q => ?_
    exact q m1 H1 _ k1 rs1 (relE_set rx i re1)
theorem pxs_asg {tg : Expr} {g : Wg} (ma : MonoW w) (mg : MonoG g) (he : PX X CA e w) (hg : PXG X CA tg g) (hs : swapsWithSole [tg] e pos.line X.env = pure false) (hw : swappedStores [tg] e X.env = pure none) (h1 : (assignEach [tg] X.env).map (·.2) = [assign tg X.env]) :
    PXS X CA (.Assign [tg] e pos) (wsAsg w g) :=
  PS.imp (ps_asg he hg hs hw h1) fun D σ H q => tAsg_of ma mg q
/-- a, b = x, y -/
theorem pxs_par {i j : Nat} {x y : Str} {b : Expr} {wb : Wp} {px py pt : Pos} {kt k2 pt2} (ma : MonoW wa) (mb : MonoW wb) (hc : X.calm = true) (hN : X.N.Nodup) (hi : X.N[i]? = some x) (hj : X.N[j]? = some y) (hij : i ≠ j)
    (hx : X.env.scope.names.lookup x = some .local) (hy : X.env.scope.names.lookup y = some .local) (ha : PX X CA a wa) (hb : PX X CA b wb) (st1 : starEach [a, b] X.env = (false, eval a X.env) :: starEach [b] X.env) (st2 : starEach [b] X.env = (false, eval b X.env) :: starEach [] X.env)
    (hw : swappedStores [.Tuple [.Name x px, .Name y py] kt pt] (.Tuple [a, b] k2 pt2) X.env = pure (some [x, y])) : PXS X CA (.Assign [.Tuple [.Name x px, .Name y py] kt pt] (.Tuple [a, b] k2 pt2) pos) (wsAsg (wTup (wCons wa (wCons wb wNil))) (wgTup 2 (wgCons (wgN i) (wgCons (wgN j) wgNil)))) :=
  PS.imp (ps_par hc hN hi hj hij hx hy (pa_cons ha (pa_cons hb pa_nil st2) st1) hw) fun D σ H q => by
    obtain ⟨m, ρ, S, rs, re, q⟩ := q
    refine lift_of ma rs re q fun t S1 m1 H1 v k1 rs1 re1 rx q => ?_
    refine lift_of mb rs1 re1 q fun u S2 m2 H2 v2 k2 rs2 re2 ry q => ?_
    refine ⟨v, v2, rfl, ?_⟩
    obtain ⟨_, _, q⟩ := q
    have q : (([] : List T) = [] ∧ AfterE X.K CA m H D.nx ((ρ.set i (some t)).set j (some u)) S2) := q
    exact q.2 m2 H2 _ (k1.trans k2) rs2 (relE_set ry j (relE_set (rx.mono k2) i re2))
/-- x += e -/
def wsAug (i : Nat) (w : Wp) : Ws := fun D ρ S => ∃ x, ρ[i]? = some (some x) ∧ w ρ S fun y S1 => augW x y S1 fun z S2 => D.nx (ρ.set i (some z)) S2
theorem mono_aug {i : Nat} (a : MonoW w) : MonoS (wsAug i w) := fun _ _ _ _ h q => by
  obtain ⟨x, e, q⟩ := q
  exact ⟨x, e, a _ _ _ _ (fun _ _ q => augW_mono (fun _ _ q => h.nx _ _ q) q) q⟩
theorem pxs_aug {i : Nat} {x : Str} {pos' : Pos} (ma : MonoW w) (hN : X.N.Nodup) (hi : X.N[i]? = some x) (hx : Loc X.env.scope x) (he : PX X CA e w) (hf : X.fn x = true ∨ X.env.scope.names.lookup x = some .local) :
    PXS X CA (.AugAssign (.Name x pos') .Add e pos) (wsAug i w) :=
  PS.imp (ps_aug hN hi hx he (opw_aug (CA := CA)) hf) fun D σ H q => by
    obtain ⟨m, ρ, S, rs, re, t, et, q⟩ := q
    obtain ⟨v, h1, rx⟩ := relE_get re et
    refine ⟨v, h1, lift_of ma rs re q fun y S1 m1 H1 u k1 rs1 re1 ry q => ?_⟩
    exact ⟨m1, S1, t, y, rs1, rx.mono k1, ry, augW_mono (fun z S2 q m2 H2 w k2 rs2 rz => q m2 H2 _ (k1.trans k2) rs2 (relE_set rz i (re1.mono k2))) q⟩
end
end TR
set_option Elab.async false
set_option linter.all false
set_option maxRecDepth 100000
set_option maxHeartbeats 2000000
/-! TR9: patterns, for, list comprehensions. -/
namespace TR
open PySem PySem.Spec L2
open PyProof.Rows hiding St

/-! ### patterns -/
inductive Pat where
  | nm (i : Nat)
  | tup (n : Nat) (ps : Pat)
  | nil
  | cons (p ps : Pat)
/-- a sequence's items -/
def seqOf (S : Sta) : T → Option (List T)
  | .tup ts => some ts
  | .frz ts => some ts
  | .obj i => (match S[i]? with
    | some (.lst ts) => some ts
    | _ => none)
  | _ => none
mutual
def bindP : Pat → T → Sta → Ev → Option Ev
  | .nm i, t, _, ρ => some (ρ.set i (some t))
  | .tup n ps, t, S, ρ => match seqOf S t with
    | some ts => bif ts.length == n then bindPs ps ts S ρ else none
    | none => none
  | .nil, _, _, _ => none
  | .cons _ _, _, _, _ => none
def bindPs : Pat → List T → Sta → Ev → Option Ev
  | .nil, ts, _, ρ => match ts with
    | [] => some ρ
    | _ => none
  | .cons p ps, ts, S, ρ => match ts with
    | t :: ts => (match bindP p t S ρ with
      | some ρ' => bindPs ps ts S ρ'
      | none => none)
    | [] => none
  | .nm _, _, _, _ => none
  | .tup _ _, _, _, _ => none
end
def Pat.vars : Pat → List Nat
  | .nm i => [i]
  | .tup _ ps => ps.vars
  | .nil => []
  | .cons p ps => p.vars ++ ps.vars
section
variable (K : PySem.W.Frag) (CA : ClsAt)
def tgP (p : Pat) : TG := fun v σ H Q => ∃ m ρ S t ρ1, RelS K CA H m S ∧ RelE K H m ρ σ ∧ RelT K H m t v ∧ bindP p t S ρ = some ρ1 ∧
  ∀ σ1, RelE K H m ρ1 σ1 → (∀ vs : List Nat, (∀ i ∈ p.vars, i ∈ vs) → wipe σ1 vs = wipe σ vs) → Q σ1 H
def tgPs (p : Pat) : TGs := fun vs σ H Q => ∃ m ρ S ts ρ1, RelS K CA H m S ∧ RelE K H m ρ σ ∧ RelTs K H m ts vs ∧ bindPs p ts S ρ = some ρ1 ∧
  ∀ σ1, RelE K H m ρ1 σ1 → (∀ vs : List Nat, (∀ i ∈ p.vars, i ∈ vs) → wipe σ1 vs = wipe σ vs) → Q σ1 H
end
theorem wipe_set {σ : L2.St} {i : Nat} {o : Option V} : ∀ {vs : List Nat}, i ∈ vs → wipe (σ.set i o) vs = wipe σ vs
  | [], h => by cases h
  | v :: vs, h => by
    show (wipe (σ.set i o) vs).set v none = (wipe σ vs).set v none
    by_cases hi : i ∈ vs
    · rw [wipe_set hi]
    · have e : i = v := by
        rcases List.mem_cons.mp h with e | h
        · exact e
        · exact absurd h hi
      subst e
      clear h
      have : ∀ (vs : List Nat), i ∉ vs → wipe (σ.set i o) vs = (wipe σ vs).set i o := by
        intro vs
        induction vs with
        | nil => intro _; rfl
        | cons w ws ih =>
          intro h
          rw [List.mem_cons, not_or] at h
          show (wipe (σ.set i o) ws).set w none = ((wipe σ ws).set w none).set i o
          rw [ih h.2, List.set_comm _ _ h.1]
      rw [this vs hi, List.set_set]
/-- the slots of a comprehension's own names forgotten -/
def wipeE (ρ : Ev) : List Nat → Ev
  | [] => ρ
  | v :: vs => (wipeE ρ vs).set v none
theorem relE_setN {K : PySem.W.Frag} {H : Hp} {m : List Addr} : ∀ {ρ : Ev} {σ : L2.St} (i : Nat), RelE K H m ρ σ → RelE K H m (ρ.set i none) (σ.set i none)
  | _, _, _, .nil => .nil
  | _, _, 0, .cons _ r => .cons trivial r
  | _, _, i + 1, .cons q r => .cons q (relE_setN i r)
theorem relE_wipe {K : PySem.W.Frag} {H : Hp} {m : List Addr} {ρ : Ev} {σ : L2.St} (r : RelE K H m ρ σ) : ∀ vs : List Nat, RelE K H m (wipeE ρ vs) (wipe σ vs)
  | [] => r
  | v :: vs => relE_setN v (relE_wipe r vs)
section
variable {X : Cx} {CA : ClsAt} {pos : Pos}
theorem pgp_name {i : Nat} {x : Str} (hN : X.N.Nodup) (hi : X.N[i]? = some x) (hx : Loc X.env.scope x) (hf : X.fn x = true ∨ X.env.scope.names.lookup x = some .local) : PG X (.Name x pos) (tgP X.K CA (.nm i)) :=
  PG.imp (pg_name hN hi hx hf) fun v σ H Q q => by
    obtain ⟨m, ρ, S, t, ρ1, rs, re, rt, e, q⟩ := q
    simp only [bindP, Option.some.injEq] at e
    subst e
    exact q _ (relE_set rt i re) fun vs hv => wipe_set (hv i (List.mem_singleton.mpr rfl))
theorem pgps_nil : PGs X [] (tgPs X.K CA .nil) := PGs.imp pgs_nil fun v σ H Q q => by
  obtain ⟨m, ρ, S, t, ρ1, rs, re, rt, e, q⟩ := q
  cases rt with
  | nil =>
    simp only [bindPs, Option.some.injEq] at e
    subst e
    exact ⟨rfl, q σ re fun _ _ => rfl⟩
  | cons _ _ => simp [bindPs] at e
theorem pgps_cons {e : Expr} {es : List Expr} {p ps : Pat} (h : PG X e (tgP X.K CA p)) (hs : PGs X es (tgPs X.K CA ps)) (he : (assignEach (e :: es) X.env).map (·.2) = assign e X.env :: (assignEach es X.env).map (·.2)) : PGs X (e :: es) (tgPs X.K CA (.cons p ps)) :=
  PGs.imp (pgs_cons h hs he) fun v σ H Q q => by
    obtain ⟨m, ρ, S, ts, ρ1, rs, re, rt, e, q⟩ := q
    cases rt with
    | nil => simp [bindPs] at e
    | @cons t ts v vs r rr =>
      simp only [bindPs] at e
      cases hb : bindP p t S ρ with
      | none => rw [hb] at e; cases e
      | some ρ' =>
        rw [hb] at e
        refine ⟨v, vs, rfl, m, ρ, S, t, ρ', rs, re, r, hb, fun σ1 re1 hw1 => ?_⟩
        refine ⟨m, ρ', S, ts, ρ1, rs, re1, rr, e, fun σ2 re2 hw2 => ?_⟩
        refine q σ2 re2 fun us hu => ?_
        rw [hw2 us fun i hi => hu i (List.mem_append_right _ hi), hw1 us fun i hi => hu i (List.mem_append_left _ hi)]
theorem pgp_tup {es : List Expr} {k : Nat} {ps : Pat} {n : Nat} (hc : X.calm = true) (h : PGs X es (tgPs X.K CA ps)) (hn : (assignEach es X.env).length = n) (hst : (assignEach es X.env).findIdx? (·.1) = none) : PG X (.Tuple es k pos) (tgP X.K CA (.tup n ps)) :=
  PG.imp (PG.or (pg_tup hc h hn hst) (pg_lst hc h hn hst)) fun v σ H Q q => by
    obtain ⟨m, ρ, S, t, ρ1, rs, re, rt, e, q⟩ := q
    have fin : ∀ {ts : List T} {vs : List V}, seqOf S t = some ts → RelTs X.K H m ts vs → vs.length = n ∧ tgPs X.K CA ps vs σ H Q := fun {ts vs} e1 rr => by
      simp only [bindP, e1] at e
      cases hl : ts.length == n with
      | false => rw [hl] at e; cases e
      | true =>
        rw [hl] at e
        exact ⟨by rw [← rr.length]; exact beq_iff_eq.mp hl, m, ρ, S, ts, ρ1, rs, re, rr, e, q⟩
    cases rt with
    | tup hs rr => exact .inl ⟨_, _, rfl, hs, fin rfl rr⟩
    | frz hs rr => exact .inr ⟨_, _, rfl, hs.l, fin rfl rr⟩
    | @obj i a hm =>
      cases ec : S[i]? with
      | none => simp [bindP, seqOf, ec] at e
      | some c =>
        cases c with
        | lst ts =>
          obtain ⟨a, e3, vs, e4, rb⟩ := rs.get ec
          rw [hm] at e3; cases e3
          exact .inr ⟨_, _, rfl, SqL.of e4, fin (by simp [seqOf, ec]) rb⟩
        | dct _ => simp [bindP, seqOf, ec] at e
        | ins _ _ => simp [bindP, seqOf, ec] at e
    | _ => simp [bindP, seqOf] at e
end

/-! ### for -/
def forW (g : Sta → Prop) (p : Pat) (wb : Ws) (D : En) : List T → Ev → Sta → Prop
  | [], ρ, S => g S ∧ D.nx ρ S
  | x :: xs, ρ, S => g S ∧ ∃ ρ1, bindP p x S ρ = some ρ1 ∧ wb { nx := forW g p wb D xs, rt := D.rt, bk := D.nx, ct := forW g p wb D xs } ρ1 S
def wsFor (wi : Wi) (p : Pat) (wb : Ws) : Ws := fun D ρ S => wi ρ S fun xs g S1 => forW g p wb D xs ρ S1
theorem forW_mono {g : Sta → Prop} {p : Pat} {wb : Ws} (mb : MonoS wb) {D D' : En} (h : D.Le D') : ∀ (xs : List T) (ρ : Ev) (S : Sta), forW g p wb D xs ρ S → forW g p wb D' xs ρ S
  | [], ρ, S, q => ⟨q.1, h.nx _ _ q.2⟩
  | x :: xs, ρ, S, q => by
    obtain ⟨q1, ρ1, q2, q3⟩ := q
    exact ⟨q1, ρ1, q2, mb { nx := forW g p wb D xs, rt := D.rt, bk := D.nx, ct := forW g p wb D xs } _ _ _ ⟨fun ρ S q => forW_mono mb h xs ρ S q, h.rt, h.nx, fun ρ S q => forW_mono mb h xs ρ S q⟩ q3⟩
theorem mono_for {wi : Wi} {p : Pat} {wb : Ws} (mi : MonoI wi) (mb : MonoS wb) : MonoS (wsFor wi p wb) := fun _ _ _ _ h q => mi _ _ _ _ (fun xs g S q => forW_mono mb h xs _ S q) q
section
variable {X : Cx} {CA : ClsAt} {pos : Pos} {tg iter : Expr} {p : Pat} {wi : Wi} {wb : Ws} {body : List Stmt}
theorem pxs_for (mi : MonoI wi) (mb : MonoS wb) (hp : PassesOwn (model X.prog X.w) X.A X.env X.xe) (hc : X.calm = true) (hi : PXI X CA tg iter wi) (hg : PG X tg (tgP X.K CA p)) (hb : PXSs X CA body wb) (hs : ∀ x, foldedSetIterable iter X.env x = pure x) :
    PXS X CA (.For tg iter body [] pos) (wsFor wi p wb) :=
  PS.imp (ps_for hp hc hi hg hb hs) fun D σ H q => by
    obtain ⟨m, ρ, S, rs, re, q⟩ := q
    refine ⟨m, ρ, S, rs, re, mi _ _ _ _ (fun xs g S1 q => ?_) q⟩
    intro m1 H1 J k1 rs1 wk
    refine ⟨fun i n σ' H' => n = xs.length - i ∧ i ≤ xs.length ∧ ∃ m' ρ' S', Step m1 H1 m' H' ∧ RelS X.K CA H' m' S' ∧ RelE X.K H' m' ρ' σ' ∧ forW g p wb (endsOf X.K CA m H D) (xs.drop i) ρ' S',
      ⟨xs.length, by simp, Nat.zero_le _, m1, ρ, S1, .rfl', rs1, re.mono k1, q⟩, ?_⟩
    rintro i n σ' H' ⟨rfl, hi, m', ρ', S', k', rs', re', q'⟩
    have kk := k1.trans k'
    by_cases hlt : i < xs.length
    · rw [List.drop_eq_getElem_cons hlt] at q'
      obtain ⟨hgS, ρ2, hb2, q'⟩ := q'
      obtain ⟨_, hgo⟩ := wk m' H' S' k'.kp rs' hgS
      obtain ⟨go, yl⟩ := hgo i xs[i] (List.getElem?_eq_getElem hlt)
      refine .inr ⟨go, fun σ2 H2 => ∃ m2 ρ2 S2, Step m1 H1 m2 H2 ∧ RelS X.K CA H2 m2 S2 ∧ RelE X.K H2 m2 ρ2 σ2 ∧ forW g p wb (endsOf X.K CA m H D) (xs.drop (i + 1)) ρ2 S2,
        fun σ2 H2 h => ⟨xs.length - (i + 1), by omega, rfl, hlt, h⟩, fun v H2 y => ?_⟩
      obtain ⟨k2, rs2, rt2⟩ := yl v H2 y
      refine ⟨m', ρ', S', _, ρ2, rs2, re'.mono k2, rt2, hb2, fun σ3 re3 _ => ?_⟩
      refine ⟨m', ρ2, S', rs2, re3, mb _ _ _ _ ⟨fun ρ4 S4 q4 => ?_, fun t4 S4 q4 => ?_, fun ρ4 S4 q4 => ?_, fun ρ4 S4 q4 => ?_⟩ q'⟩
      · intro m4 H4 σ4 k4 rs4 re4
        exact ⟨m4, ρ4, S4, (k'.trans k2).trans k4, rs4, re4, q4⟩
      · intro m4 H4 v4 k4 rs4 re4
        exact q4 m4 H4 v4 ((kk.trans k2).trans k4) rs4 re4
      · intro m4 H4 σ4 k4 rs4 re4
        exact q4 m4 H4 σ4 ((kk.trans k2).trans k4) rs4 re4
      · intro m4 H4 σ4 k4 rs4 re4
        exact ⟨m4, ρ4, S4, (k'.trans k2).trans k4, rs4, re4, q4⟩
    · have e : i = xs.length := by omega
      subst e
      rw [List.drop_length] at q'
      obtain ⟨hgS, q'⟩ := q'
      obtain ⟨st, _⟩ := wk m' H' S' k'.kp rs' hgS
      exact .inl ⟨st _ (Nat.le_refl _), q' m' H' σ' kk rs' re'⟩
end

/-! ### list comprehensions -/
abbrev Wc := Ev → Sta → (Bool → Sta → Prop) → Prop
def wYes : Wt := fun _ S Q => Q true S
theorem mono_yes : MonoT wYes := fun _ _ _ _ h q => h _ _ q
/-- the items one by one -/
def lcW (g : Sta → Prop) (p : Pat) (tt : Wt) (we : Wp) (ρ0 : Ev) (R : List T → Sta → Prop) : List T → List T → Sta → Prop
  | [], acc, S => g S ∧ R acc S
  | x :: xs, acc, S => g S ∧ ∃ ρ1, bindP p x S ρ0 = some ρ1 ∧ tt ρ1 S fun b S2 =>
      if b = true then we ρ1 S2 fun y S3 => acc.length < sizeLine ∧ lcW g p tt we ρ0 R xs (acc ++ [y]) S3 else lcW g p tt we ρ0 R xs acc S2
theorem lcW_mono {g : Sta → Prop} {p : Pat} {tt : Wt} {we : Wp} {ρ0 : Ev} (mt : MonoT tt) (me : MonoW we) {R R' : List T → Sta → Prop} (h : ∀ ts S, R ts S → R' ts S) : ∀ (xs acc : List T) (S : Sta), lcW g p tt we ρ0 R xs acc S → lcW g p tt we ρ0 R' xs acc S
  | [], acc, S, q => ⟨q.1, h _ _ q.2⟩
  | x :: xs, acc, S, q => by
    obtain ⟨q1, ρ1, q2, q3⟩ := q
    refine ⟨q1, ρ1, q2, mt _ _ _ _ (fun b S2 q => ?_) q3⟩
    cases b with
    | true => exact me _ _ _ _ (fun y S3 q => ⟨q.1, lcW_mono mt me h xs _ S3 q.2⟩) q
    | false => exact lcW_mono mt me h xs _ S2 q
def wLc (wi : Wi) (p : Pat) (tt : Wt) (we : Wp) (own : List Nat) : Wp := fun ρ S Q => wi ρ S fun xs g S1 => lcW g p tt we (wipeE ρ own) (fun ts S2 => Q (.obj S2.length) (S2 ++ [.lst ts])) xs [] S1
theorem mono_lc {wi : Wi} {p : Pat} {tt : Wt} {we : Wp} {own : List Nat} (mi : MonoI wi) (mt : MonoT tt) (me : MonoW we) : MonoW (wLc wi p tt we own) := fun _ _ _ _ h q => mi _ _ _ _ (fun xs g S q => lcW_mono mt me (fun _ _ q => h _ _ q) xs [] S q) q
section
variable {K : PySem.W.Frag} {CA : ClsAt} {m m' m0 : List Addr} {H H' H0 : Hp} {S : Sta} {D : Addr} {o : HO}
/-- D outside of the cells -/
theorem Step.at_out (k : Step m H m' H') (hD : D ∉ m) (e : H D = some o) : H' D = some o ∧ D ∉ m' :=
  ⟨k.rest D o e hD, fun z => by
    have := k.new_ D z hD
    rw [e] at this
    cases this⟩
theorem Step.grow (k : Step m0 H0 m H) (h0 : H0 D = none) : Step m0 H0 m (upd H D o) :=
  ⟨k.pre, fun a xs e => by rw [upd_ne (ne_of_none e h0)]; exact k.tup a xs e, fun a o' u e => by rw [upd_ne (ne_of_none e h0)]; exact k.frz a o' u e, fun a o' e n => by rw [upd_ne (ne_of_none e h0)]; exact k.rest a o' e n, k.new_⟩
theorem RelS.base_none (r : RelS K CA H m S) (h : H D = none) : CA.H0 D = none := by
  cases e : CA.H0 D with
  | none => rfl
  | some o =>
    have n : D ∉ CA.m0 := fun z => r.notin h (r.from_.pre.subset z)
    have := r.from_.rest D o e n
    rw [h] at this
    cases this
/-- a list (no tuple) at D changes -/
theorem Kp.grow {xs : List V} (e : H D = some (.lst xs)) : Kp m H m (upd H D o) :=
  ⟨List.prefix_refl _, fun a ys z => by
      rw [upd_ne fun y => by subst y; rw [e] at z; cases z]
      exact z, fun a o' u z => by
      rw [upd_ne fun y => by subst y; rw [e] at z; cases z]
      exact z⟩
/-- a list outside of the cells grows -/
theorem RelS.grow {xs : List V} (r : RelS K CA H m S) (hD : D ∉ m) (e : H D = some (.lst xs)) (h0 : CA.H0 D = none) : RelS K CA (upd H D o) m S :=
  ⟨r.nd, r.len, fun i c a h1 h2 => (r.at_ i c a h1 h2).monoK (Kp.grow e) (upd_ne fun z => hD (z ▸ List.mem_of_getElem? h2)), r.from_.grow h0⟩
end
end TR
set_option Elab.async false
set_option linter.all false
set_option maxRecDepth 100000
set_option maxHeartbeats 2000000
/-! TR10: list comprehensions. -/
namespace TR
open PySem PySem.Spec L2
open PyProof.Rows hiding St

section
variable {K : PySem.W.Frag} {CA : ClsAt} {m m' m0 : List Addr} {H H' H0 : Hp} {S : Sta} {D : Addr}
theorem Step.add (k : Step m H m' H') (h : H D = none) : Step m H (m' ++ [D]) H' :=
  ⟨k.pre.trans (List.prefix_append _ _), k.tup, k.frz, k.rest, fun p hp n => by
    rcases List.mem_append.mp hp with z | z
    · exact k.new_ p z n
    · rw [List.mem_singleton.mp z]; exact h⟩
theorem Kp.add : Kp m H (m ++ [D]) H := ⟨List.prefix_append _ _, fun _ _ h => h, fun _ _ _ h => h⟩
theorem RelS.add (r : RelS K CA H m S) {c : Cell} (hp : D ∉ m) (h0 : CA.H0 D = none) (hc : CellRel K CA H (m ++ [D]) c D) : RelS K CA H (m ++ [D]) (S ++ [c]) := by
  refine ⟨?_, by simp [r.len], fun i c' a h1 h2 => ?_, r.from_.add h0⟩
  · rw [List.nodup_append]
    exact ⟨r.nd, by simp, fun x hx y hy => by
      rw [List.mem_singleton] at hy
      subst hy
      exact fun z => hp (z ▸ hx)⟩
  · by_cases hi : i < m.length
    · rw [List.getElem?_append_left hi] at h2
      rw [List.getElem?_append_left (by rw [← r.len]; exact hi)] at h1
      exact (r.at_ i c' a h1 h2).monoK Kp.add rfl
    · have e : i = m.length := by
        have := (List.getElem?_eq_some_iff.mp h2).1
        simp at this
        omega
      subst e
      rw [List.getElem?_append_right (Nat.le_refl _)] at h2
      rw [List.getElem?_append_right (by rw [r.len]; exact Nat.le_refl _)] at h1
      simp at h2
      simp [r.len] at h1
      subst h2 h1
      exact hc
/-- what is free now was free ahead -/
theorem RelS.back_none (r : RelS K CA H m S) (k : Step m0 H0 m H) (h : H D = none) : H0 D = none := by
  cases e : H0 D with
  | none => rfl
  | some o =>
    have n : D ∉ m0 := fun z => r.notin h (k.pre.subset z)
    have := k.rest D o e n
    rw [h] at this
    cases this
end
theorem wipe_in {σ : L2.St} {i : Nat} : ∀ {vs : List Nat}, i ∈ vs → ∀ o, (wipe σ vs)[i]? = some o → o = none
  | v :: vs, h, o, e => by
    have e : ((wipe σ vs).set v none)[i]? = some o := e
    by_cases hv : v = i
    · subst hv
      by_cases hl : v < (wipe σ vs).length
      · rw [List.getElem?_set_self hl] at e; cases e; rfl
      · rw [List.getElem?_eq_none (by simpa using hl)] at e; cases e
    · rw [List.getElem?_set_ne hv] at e
      refine wipe_in (List.mem_of_ne_of_mem (fun z => hv z.symm) h) o e
theorem wipe_set_same {σ : L2.St} : ∀ {vs : List Nat} (v : Nat), v ∈ vs → (wipe σ vs).set v none = wipe σ vs := fun {vs} v h => by
  apply List.ext_getElem?
  intro i
  by_cases hv : v = i
  · subst hv
    by_cases hl : v < (wipe σ vs).length
    · rw [List.getElem?_set_self hl]
      cases e : (wipe σ vs)[v]? with
      | none => rw [List.getElem?_eq_none_iff] at e; omega
      | some o => rw [wipe_in h o e]
    · rw [List.getElem?_eq_none (by simpa using hl), List.getElem?_eq_none (by simpa using hl)]
  · rw [List.getElem?_set_ne hv]
theorem wipe_wipe' {σ : L2.St} {us : List Nat} : ∀ {vs : List Nat}, (∀ v ∈ vs, v ∈ us) → wipe (wipe σ us) vs = wipe σ us
  | [], _ => rfl
  | v :: vs, h => by
    show (wipe (wipe σ us) vs).set v none = _
    rw [wipe_wipe' fun w hw => h w (List.mem_cons_of_mem _ hw)]
    exact wipe_set_same v (h v List.mem_cons_self)
theorem wipe_idem {σ : L2.St} {vs : List Nat} : wipe (wipe σ vs) vs = wipe σ vs := wipe_wipe' fun _ h => h
abbrev PXTs (X : Cx) (CA : ClsAt) (es : List Expr) (w : Wt) : Prop := PTs X es (liftT X.K CA w)
theorem PTs.imp {X : Cx} {e : List Expr} {t t' : TT} (h : PTs X e t) (i : ∀ σ H Q, t' σ H Q → t σ H Q) : PTs X e t' := ⟨fun pins s σ H Q I hq => h.run pins s σ H Q I (i σ H Q hq)⟩
theorem pxts_nil {X : Cx} {CA : ClsAt} : PXTs X CA [] wYes := PTs.imp pts_nil fun σ H Q q => by
  obtain ⟨m, ρ, S, rs, re, q⟩ := q
  exact q m H .rfl' rs
theorem pxts_one {X : Cx} {CA : ClsAt} {c : Expr} {w : Wt} (h : PXT X CA c w) : PXTs X CA [c] w := pts_one h
section
variable {X : Cx} {CA : ClsAt} {pos : Pos} {tg iter elt : Expr} {ifs : List Expr} {p : Pat} {wi : Wi} {tt : Wt} {we : Wp} {vs : List Nat}
theorem tLc_of (mi : MonoI wi) (mt : MonoT tt) (me : MonoW we) (hv : ∀ i ∈ p.vars, i ∈ vs) {σ : L2.St} {H : Hp} {Q : VK} (q : lift X.K CA (wLc wi p tt we vs) σ H Q) :
    tLc (liftI X.K CA wi) (tgP X.K CA p) (liftT X.K CA tt) (lift X.K CA we) vs σ H Q := by
  obtain ⟨m, ρ, S, rs, re, q⟩ := q
  refine ⟨m, ρ, S, rs, re, mi _ _ _ _ (fun xs g S1 q => ?_) q⟩
  intro m1 H1 J k1 rs1 wk D hD
  have hD0 : H D = none := rs1.back_none k1 hD
  have hDA : CA.H0 D = none := rs1.base_none hD
  have rw0 : RelE X.K H1 m1 (wipeE ρ vs) (wipe σ vs) := (relE_wipe re vs).mono k1
  refine ⟨fun i n H' => n = xs.length - i ∧ i ≤ xs.length ∧ ∃ m' S' acc vacc, Step m1 H1 m' H' ∧ RelS X.K CA H' m' S' ∧ D ∉ m' ∧ H' D = some (.lst vacc) ∧ RelTs X.K H' m' acc vacc ∧
      lcW g p tt we (wipeE ρ vs) (fun ts S2 => After X.K CA m H Q (.obj S2.length) (S2 ++ [.lst ts])) (xs.drop i) acc S',
    ⟨xs.length, by simp, Nat.zero_le _, m1, S1, [], [], Step.new hD, rs1.new hD, rs1.notin hD, upd_same, .nil, q⟩, ?_⟩
  rintro i n H' ⟨rfl, hi, m', S', acc, vacc, k', rs', nD, eD, ra, q'⟩
  by_cases hlt : i < xs.length
  · rw [List.drop_eq_getElem_cons hlt] at q'
    obtain ⟨hgS, ρ2, hb2, q'⟩ := q'
    obtain ⟨_, hgo⟩ := wk m' H' S' k'.kp rs' hgS
    obtain ⟨go, yl⟩ := hgo i xs[i] (List.getElem?_eq_getElem hlt)
    refine .inr ⟨go, fun H2 => ∃ m2 S2 acc vacc, Step m1 H1 m2 H2 ∧ RelS X.K CA H2 m2 S2 ∧ D ∉ m2 ∧ H2 D = some (.lst vacc) ∧ RelTs X.K H2 m2 acc vacc ∧
        lcW g p tt we (wipeE ρ vs) (fun ts S2 => After X.K CA m H Q (.obj S2.length) (S2 ++ [.lst ts])) (xs.drop (i + 1)) acc S2,
      fun H2 h => ⟨xs.length - (i + 1), by omega, rfl, hlt, h⟩, fun v H2 y => ?_⟩
    obtain ⟨k2, rs2, rt2⟩ := yl v H2 y
    obtain ⟨eD2, _⟩ := k2.at_out nD eD
    refine ⟨m', wipeE ρ vs, S', _, ρ2, rs2, (rw0.mono k').mono k2, rt2, hb2, fun σ3 re3 hw3 => ⟨by rw [hw3 vs hv, wipe_idem], ?_⟩⟩
    refine liftT_of mt rs2 re3 q' fun b S4 m4 H4 k4 rs4 re4 q4 => ?_
    obtain ⟨eD4, nD4⟩ := k4.at_out nD eD2
    cases b with
    | false => exact ⟨m4, S4, acc, vacc, (k'.trans k2).trans k4, rs4, nD4, eD4, (ra.mono k2).mono k4, q4⟩
    | true =>
      refine lift_of me rs4 re4 q4 fun y S5 m5 H5 v5 k5 rs5 re5 ry5 q5 => ?_
      obtain ⟨eD5, nD5⟩ := k5.at_out nD4 eD4
      have rr : RelTs X.K H5 m5 (acc ++ [y]) (vacc ++ [v5]) := (((ra.mono k2).mono k4).mono k5).append (.cons ry5 .nil)
      exact ⟨vacc, eD5, by rw [← ra.length]; exact q5.1, m5, S5, acc ++ [y], vacc ++ [v5], (((k'.trans k2).trans k4).trans k5).grow hD, rs5.grow nD5 eD5 hDA, nD5, upd_same, rr.monoK (Kp.grow eD5), q5.2⟩
  · have e : i = xs.length := by omega
    subst e
    rw [List.drop_length] at q'
    obtain ⟨hgS, q'⟩ := q'
    obtain ⟨st, _⟩ := wk m' H' S' k'.kp rs' hgS
    refine .inl ⟨st _ (Nat.le_refl _), ?_⟩
    refine q' (m' ++ [D]) H' _ ((k1.trans k').add hD0) (rs'.add nD hDA ⟨vacc, eD, ra.monoK Kp.add⟩) (obj_new rs'.len)
variable {scope : Scope} {own : List (Str × Nat)}
theorem px_lc (hc : X.calm = true) (hN : X.N.Nodup) (mi : MonoI wi) (mt : MonoT tt) (me : MonoW we) (hv : ∀ i ∈ p.vars, i ∈ own.map (·.2)) (hi : PXI X CA tg iter wi) (ok : BlkOk X.N X.env.scope scope own)
    (hg : ∀ (s : Shared) (H : Hp) (C : Addr) (cl : List (Str × Addr)) (fp : List Addr), PG (X.blk s H scope (compEnvC scope cl C X.env) fp) tg (tgP X.K CA p)) (ht : ∀ (s : Shared) (H : Hp) (C : Addr) (cl : List (Str × Addr)) (fp : List Addr), PXTs (X.blk s H scope (compEnvC scope cl C X.env) fp) CA ifs tt)
    (he : ∀ (s : Shared) (H : Hp) (C : Addr) (cl : List (Str × Addr)) (fp : List Addr), PX (X.blk s H scope (compEnvC scope cl C X.env) fp) CA elt we) (hs : ∀ x, foldedSetIterable iter X.env x = pure x) :
    PX X CA (.ListComp elt [⟨tg, iter, ifs, 0⟩] scope pos) (wLc wi p tt we (own.map (·.2))) :=
  PE.imp (pe_lc hc hN hi ok hg ht he hs) fun σ H Q q => tLc_of mi mt me hv q
theorem pxs_setLc {i : Nat} {y : Str} {py spos : Pos} (hc : X.calm = true) (hN : X.N.Nodup) (hy : X.N[i]? = some y) (hyl : X.env.scope.names.lookup y = some .local)
    (hsw : swapsWith (.ListComp elt [⟨tg, iter, ifs, 0⟩] scope pos) (some (.Name y py)) spos.line X.env = pure true) (mi : MonoI wi) (mt : MonoT tt) (me : MonoW we) (hv : ∀ i ∈ p.vars, i ∈ own.map (·.2)) (hi : PXI X CA tg iter wi) (ok : BlkOk X.N X.env.scope scope own)
    (hg : ∀ (s : Shared) (H : Hp) (C : Addr) (cl : List (Str × Addr)) (fp : List Addr), PG (X.blk s H scope (compEnvC scope cl C X.env) fp) tg (tgP X.K CA p)) (ht : ∀ (s : Shared) (H : Hp) (C : Addr) (cl : List (Str × Addr)) (fp : List Addr), PXTs (X.blk s H scope (compEnvC scope cl C X.env) fp) CA ifs tt)
    (he : ∀ (s : Shared) (H : Hp) (C : Addr) (cl : List (Str × Addr)) (fp : List Addr), PX (X.blk s H scope (compEnvC scope cl C X.env) fp) CA elt we) (hs : ∀ x, foldedSetIterable iter X.env x = pure x) :
    PXS X CA (.Assign [.Name y py] (.ListComp elt [⟨tg, iter, ifs, 0⟩] scope pos) spos) (wsAsg (wLc wi p tt we (own.map (·.2))) (wgN i)) :=
  PS.imp (ps_setLc hc hN hy hyl hsw hi ok hg ht he hs) fun D σ H q => by
    obtain ⟨m, ρ, S, rs, re, q⟩ := q
    refine tLc_of mi mt me hv ?_
    refine lift_of (mono_lc mi mt me) rs re q fun t S1 m1 H1 v k1 rs1 re1 rx q => ?_
    exact q m1 H1 _ k1 rs1 (relE_set rx i re1)
end
end TR
set_option Elab.async false
set_option linter.all false
set_option maxRecDepth 100000
set_option maxHeartbeats 2000000
/-! TR11: builtins, dict displays. -/
namespace TR
open PySem PySem.Spec L2
open PyProof.Rows hiding St

abbrev Gn := List T → Sta → (T → Sta → Prop) → Prop
def MonoN (g : Gn) : Prop := ∀ ts S Q Q', (∀ t S', Q t S' → Q' t S') → g ts S Q → g ts S Q'
def liftN (K : PySem.W.Frag) (CA : ClsAt) (g : Gn) : List V → Hp → VK → Prop := fun vs H Q => ∃ m S ts, RelS K CA H m S ∧ RelTs K H m ts vs ∧ g ts S (After K CA m H Q)
abbrev BiR (X : Cx) (CA : ClsAt) (f : Value) (g : Gn) : Prop := CallR X f (liftN X.K CA g)
def wCall (g : Gn) (wa : Wa) : Wp := fun ρ S Q => wa ρ S fun ts S1 => g ts S1 Q
theorem mono_call {g : Gn} {wa : Wa} (mg : MonoN g) (ma : MonoA wa) : MonoW (wCall g wa) := fun _ _ _ _ h q => ma _ _ _ _ (fun _ _ q => mg _ _ _ _ h q) q
section
variable {X : Cx} {CA : ClsAt} {pos : Pos} {g : Gn} {wa : Wa}
theorem tCB_of (mg : MonoN g) (ma : MonoA wa) {σ : L2.St} {H : Hp} {Q : VK} (q : lift X.K CA (wCall g wa) σ H Q) : tCB (liftN X.K CA g) (liftA X.K CA wa) σ H Q := by
  obtain ⟨m, ρ, S, rs, re, q⟩ := q
  refine liftA_of ma rs re q fun ts S1 m1 H1 vs k1 rs1 re1 rt q => ?_
  exact ⟨m1, S1, ts, rs1, rt, mg _ _ _ _ (fun t S2 q m2 H2 v k2 => q m2 H2 v (k1.trans k2)) q⟩
theorem px_bi {id : String} {x : Str} {p : Pos} {e : Expr} {es : List Expr} (mg : MonoN g) (ma : MonoA wa) (hc : BiR X CA (.builtin id) g) (hg : Gl X x) (hm : X.mg x = none) (hv : bootBuiltins x = some (.builtin id)) (ha : PXA X CA (e :: es) wa) (hn : x ≠ "__name__")
    (hdb : (x == ("__debug__" : Str)) = false) (he : starEach (e :: es) X.env = (false, eval e X.env) :: starEach es X.env) (hpl : (backTo pos (starEach es X.env)).any (·.1) = false) : PX X CA (.Call (.Name x p) (e :: es) [] pos) (wCall g wa) :=
  PE.imp (pe_callB hc hg hm hv ha hn hdb he hpl) fun σ H Q q => tCB_of mg ma q
theorem px_ty {T : String} {x : Str} {p : Pos} {e : Expr} {es : List Expr} (mg : MonoN g) (ma : MonoA wa) (hc : BiR X CA (.type T) g) (hg : Gl X x) (hm : X.mg x = none) (hv : bootBuiltins x = some (.type T)) (ha : PXA X CA (e :: es) wa) (hn : x ≠ "__name__")
    (hdb : (x == ("__debug__" : Str)) = false) (he : starEach (e :: es) X.env = (false, eval e X.env) :: starEach es X.env) (hpl : (backTo pos (starEach es X.env)).any (·.1) = false) : PX X CA (.Call (.Name x p) (e :: es) [] pos) (wCall g wa) :=
  PE.imp (pe_callTy hc hg hm hv ha hn hdb he hpl) fun σ H Q q => tCB_of mg ma q
end

/-! ### len -/
def lenW (x : T) (S : Sta) (Q : Nat → Prop) : Prop :=
  match x with
  | .str y => y.length ≤ sizeLine ∧ Q y.length
  | .tup xs => Q xs.length
  | .frz xs => Q xs.length
  | .obj i => match S[i]? with
    | some (.lst xs) => Q xs.length
    | some (.dct kvs) => Q kvs.length
    | _ => False
  | _ => False
theorem lenW_mono {x : T} {S : Sta} {Q Q' : Nat → Prop} (h : ∀ b, Q b → Q' b) (q : lenW x S Q) : lenW x S Q' := by
  unfold lenW at q ⊢
  split <;> simp only at q
  · exact ⟨q.1, h _ q.2⟩
  · exact h _ q
  · exact h _ q
  · split <;> rename_i e <;> simp only [e] at q
    · exact h _ q
    · exact h _ q
def gLen : Gn := fun ts S Q => match ts with
  | [x] => lenW x S fun n => Q (.int n) S
  | _ => False
theorem mono_gLen : MonoN gLen := fun ts S Q Q' h q => by
  unfold gLen at q ⊢
  split <;> simp only at q
  exact lenW_mono (fun _ q => h _ _ q) q
theorem Paired.len {α β : Type} {F : α → β → Prop} : ∀ {l : List α} {r : List β}, Paired F l r → l.length = r.length
  | _, _, .nil => rfl
  | _, _, .cons _ t => congrArg (· + 1) (Paired.len t)
section
variable {X : Cx} {CA : ClsAt}
theorem bi_len : BiR X CA (.builtin "len") gLen := by
  intro pins s σ H xs us Q I r h
  obtain ⟨m, S, ts, rs, rt, h⟩ := h
  unfold gLen at h
  split at h
  · cases rt with
    | cons rx rn =>
      cases rn
      unfold lenW at h
      split at h
      · cases rx
        refine call_len_str pins s σ H _ us Q I r ⟨_, rfl, by rw [mkS_len]; exact h.1, ?_⟩
        rw [mkS_len]
        exact h.2 m H _ .rfl' rs (.int _)
      · cases rx with
        | tup hs rr => exact call_len_seq pins s σ H _ us Q I r ⟨_, _, rfl, .inr hs, by rw [← rr.length]; exact h m H _ .rfl' rs (.int _)⟩
      · cases rx with
        | frz hs rr => exact call_len_seq pins s σ H _ us Q I r ⟨_, _, rfl, .inl hs.l, by rw [← rr.length]; exact h m H _ .rfl' rs (.int _)⟩
      · cases rx with
        | obj hm =>
          split at h
          · rename_i ec
            obtain ⟨a, e3, vs, e4, rb⟩ := rs.get ec
            rw [hm] at e3; cases e3
            exact call_len_seq pins s σ H _ us Q I r ⟨_, _, rfl, .inl (SqL.of e4), by rw [← rb.length]; exact h m H _ .rfl' rs (.int _)⟩
          · rename_i ec
            obtain ⟨a, e3, l, e4, rd⟩ := rs.get ec
            rw [hm] at e3; cases e3
            exact call_lenD pins s σ H _ us Q I r ⟨_, _, rfl, e4, by rw [← Paired.len rd]; exact h m H _ .rfl' rs (.int _)⟩
          · exact h.elim
      · exact h.elim
  · exact h.elim
end

/-! ### numbers -/
def gAbs : Gn := fun ts S Q => match ts with
  | [.int i] => Q (.int (if i < 0 then -i else i)) S
  | _ => False
def gMax : Gn := fun ts S Q => match ts with
  | [.int i, .int j] => Q (.int (if j > i then j else i)) S
  | _ => False
def gMin : Gn := fun ts S Q => match ts with
  | [.int i, .int j] => Q (.int (if j < i then j else i)) S
  | _ => False
def gDivmod : Gn := fun ts S Q => match ts with
  | [.int i, .int j] => CDivP i j ∧ Q (.tup [.int (i / j), .int (i % j)]) S
  | _ => False
theorem mono_gAbs : MonoN gAbs := fun ts S Q Q' h q => by
  unfold gAbs at q ⊢
  split <;> simp only at q
  exact h _ _ q
theorem mono_gMax : MonoN gMax := fun ts S Q Q' h q => by
  unfold gMax at q ⊢
  split <;> simp only at q
  exact h _ _ q
theorem mono_gMin : MonoN gMin := fun ts S Q Q' h q => by
  unfold gMin at q ⊢
  split <;> simp only at q
  exact h _ _ q
theorem mono_gDivmod : MonoN gDivmod := fun ts S Q Q' h q => by
  unfold gDivmod at q ⊢
  split <;> simp only at q
  exact ⟨q.1, h _ _ q.2⟩
section
variable {X : Cx} {CA : ClsAt}
theorem relTs1 {K : PySem.W.Frag} {H : Hp} {m : List Addr} {t : T} {vs : List V} (r : RelTs K H m [t] vs) : ∃ v, vs = [v] ∧ RelT K H m t v := by
  cases r with
  | cons a b => cases b; exact ⟨_, rfl, a⟩
theorem relTs2 {K : PySem.W.Frag} {H : Hp} {m : List Addr} {t u : T} {vs : List V} (r : RelTs K H m [t, u] vs) : ∃ v w, vs = [v, w] ∧ RelT K H m t v ∧ RelT K H m u w := by
  cases r with
  | cons a b =>
    cases b with
    | cons b c => cases c; exact ⟨_, _, rfl, a, b⟩
theorem bi_abs : BiR X CA (.builtin "abs") gAbs := by
  intro pins s σ H xs us Q I r h
  obtain ⟨m, S, ts, rs, rt, h⟩ := h
  unfold gAbs at h
  split at h
  · obtain ⟨v, rfl, r1⟩ := relTs1 rt
    cases r1
    exact call_abs pins s σ H _ us Q I r ⟨_, rfl, h m H _ .rfl' rs (.int _)⟩
  · exact h.elim
theorem bi_max (hc : X.calm = true) : BiR X CA (.builtin "max") gMax := by
  intro pins s σ H xs us Q I r h
  obtain ⟨m, S, ts, rs, rt, h⟩ := h
  unfold gMax at h
  split at h
  · obtain ⟨v, w, rfl, r1, r2⟩ := relTs2 rt
    cases r1; cases r2
    exact call_max2 hc pins s σ H _ us Q I r ⟨_, _, rfl, h m H _ .rfl' rs (.int _)⟩
  · exact h.elim
theorem bi_min (hc : X.calm = true) : BiR X CA (.builtin "min") gMin := by
  intro pins s σ H xs us Q I r h
  obtain ⟨m, S, ts, rs, rt, h⟩ := h
  unfold gMin at h
  split at h
  · obtain ⟨v, w, rfl, r1, r2⟩ := relTs2 rt
    cases r1; cases r2
    exact call_min2 hc pins s σ H _ us Q I r ⟨_, _, rfl, h m H _ .rfl' rs (.int _)⟩
  · exact h.elim
theorem bi_divmod : BiR X CA (.builtin "divmod") gDivmod := by
  intro pins s σ H xs us Q I r h
  obtain ⟨m, S, ts, rs, rt, h⟩ := h
  unfold gDivmod at h
  split at h
  · obtain ⟨v, w, rfl, r1, r2⟩ := relTs2 rt
    cases r1; cases r2
    exact call_divmodW pins s σ H _ us Q I r ⟨_, _, rfl, h.1, fun p hp => h.2 m _ _ (Step.new hp) (rs.new hp) (.tup (SqT.of upd_same) (.cons (.int _) (.cons (.int _) .nil)))⟩
  · exact h.elim
end

/-! ### list, tuple -/
def gList : Gn := fun ts S Q => match ts with
  | [x] => (match x with
    | .tup xs => Q (.obj S.length) (S ++ [.lst xs])
    | .frz xs => Q (.obj S.length) (S ++ [.lst xs])
    | .obj i => (match S[i]? with
      | some (.lst xs) => Q (.obj S.length) (S ++ [.lst xs])
      | some (.dct kvs) => Q (.obj S.length) (S ++ [.lst (kvs.map (·.1))])
      | _ => False)
    | _ => False)
  | _ => False
def gTuple : Gn := fun ts S Q => match ts with
  | [x] => (match x with
    | .tup xs => Q (.tup xs) S
    | .frz xs => Q (.tup xs) S
    | .obj i => (match S[i]? with
      | some (.lst xs) => Q (.tup xs) S
      | _ => False)
    | _ => False)
  | _ => False
theorem mono_gList : MonoN gList := fun ts S Q Q' h q => by
  unfold gList at q ⊢
  split <;> simp only at q
  split <;> simp only at q
  · exact h _ _ q
  · exact h _ _ q
  · split <;> rename_i e <;> simp only [e] at q
    · exact h _ _ q
    · exact h _ _ q
theorem mono_gTuple : MonoN gTuple := fun ts S Q Q' h q => by
  unfold gTuple at q ⊢
  split <;> simp only at q
  split <;> simp only at q
  · exact h _ _ q
  · exact h _ _ q
  · split <;> rename_i e <;> simp only [e] at q
    · exact h _ _ q
section
variable {X : Cx} {CA : ClsAt}
theorem key_rel {K : PySem.W.Frag} {H : Hp} {m : List Addr} {t : T} {k : Key} (h : keyOf t = some k) : RelT K H m t (kV k) := by
  cases t <;> simp only [keyOf] at h <;> first | (cases h; done) | skip
  · cases h; exact .int _
  · cases h; exact .str _
theorem relD_keys {K : PySem.W.Frag} {H : Hp} {m : List Addr} : ∀ {kvs : List (T × T)} {l : List (Key × V)}, RelD K H m kvs l → RelTs K H m (kvs.map (·.1)) (l.map fun kv => kV kv.1)
  | _, _, .nil => .nil
  | _, _, .cons h t => .cons (key_rel h.1) (relD_keys t)
theorem bi_list (hc : X.calm = true) : BiR X CA (.type "list") gList := by
  intro pins s σ H xs us Q I r h
  obtain ⟨m, S, ts, rs, rt, h⟩ := h
  unfold gList at h
  split at h
  · obtain ⟨v, rfl, r1⟩ := relTs1 rt
    have seq : ∀ {zs : List T} {vs : List V} {p : Addr}, (SqL X.K H p vs ∨ SqT X.K H p vs) → v = .ref p → RelTs X.K H m zs vs → After X.K CA m H Q (.obj S.length) (S ++ [.lst zs]) → wpAny (model X.prog X.w) X.A (call (.type "list") us) (EP X pins σ Q) X.xe s :=
      fun {zs vs p} hq ep rr q => by
        subst ep
        exact call_list_of pins s σ H _ us Q I r ⟨_, _, rfl, hq, fun l hl => q (m ++ [l]) _ _ (Step.push hl) (push_lst rs hl rr) (obj_new rs.len)⟩
    split at h
    · cases r1 with
      | tup hs rr => exact seq (.inr hs) rfl rr h
    · cases r1 with
      | frz hs rr => exact seq (.inl hs.l) rfl rr h
    · cases r1 with
      | obj hm =>
        split at h
        · rename_i ec
          obtain ⟨a, e3, vs, e4, rb⟩ := rs.get ec
          rw [hm] at e3; cases e3
          exact seq (.inl (SqL.of e4)) rfl rb h
        · rename_i ec
          obtain ⟨a, e3, l, e4, rd⟩ := rs.get ec
          rw [hm] at e3; cases e3
          exact call_listD hc pins s σ H _ us Q I r ⟨_, _, rfl, .inl e4, fun p hp => h (m ++ [p]) _ _ (Step.push hp) (push_lst rs hp (relD_keys rd)) (obj_new rs.len)⟩
        · exact h.elim
    · exact h.elim
  · exact h.elim
theorem bi_tuple : BiR X CA (.type "tuple") gTuple := by
  intro pins s σ H xs us Q I r h
  obtain ⟨m, S, ts, rs, rt, h⟩ := h
  unfold gTuple at h
  split at h
  · obtain ⟨v, rfl, r1⟩ := relTs1 rt
    have seq : ∀ {zs : List T} {vs : List V} {p : Addr}, SqL X.K H p vs → v = .ref p → RelTs X.K H m zs vs → After X.K CA m H Q (.tup zs) S → wpAny (model X.prog X.w) X.A (call (.type "tuple") us) (EP X pins σ Q) X.xe s :=
      fun {zs vs p} hq ep rr q => by
        subst ep
        exact call_tuple_of pins s σ H _ us Q I r ⟨_, _, rfl, .inl ⟨hq, fun l hl => q m _ _ (Step.new hl) (rs.new hl) (.tup (SqT.of upd_same) (rr.mono (Step.new hl)))⟩⟩
    split at h
    · cases r1 with
      | tup hs rr => exact call_tuple_of pins s σ H _ us Q I r ⟨_, _, rfl, .inr ⟨hs, h m H _ .rfl' rs (.tup hs rr)⟩⟩
    · cases r1 with
      | frz hs rr => exact seq hs.l rfl rr h
    · cases r1 with
      | obj hm =>
        split at h
        · rename_i ec
          obtain ⟨a, e3, vs, e4, rb⟩ := rs.get ec
          rw [hm] at e3; cases e3
          exact seq (SqL.of e4) rfl rb h
        · exact h.elim
    · exact h.elim
  · exact h.elim
end

/-! ### all, any -/
def boolsOf : List T → Option (List Bool)
  | [] => some []
  | .bl b :: ts => (boolsOf ts).map (b :: ·)
  | _ => none
def lstOf (S : Sta) : T → Option (List T)
  | .frz xs => some xs
  | .obj i => (match S[i]? with
    | some (.lst xs) => some xs
    | _ => none)
  | _ => none
def gAll : Gn := fun ts S Q => match ts with
  | [x] => ∃ xs bs, lstOf S x = some xs ∧ boolsOf xs = some bs ∧ Q (.bl (bs.all id)) S
  | _ => False
def gAny : Gn := fun ts S Q => match ts with
  | [x] => ∃ xs bs, lstOf S x = some xs ∧ boolsOf xs = some bs ∧ Q (.bl (bs.any id)) S
  | _ => False
theorem mono_gAll : MonoN gAll := fun ts S Q Q' h q => by
  unfold gAll at q ⊢
  split <;> simp only at q
  obtain ⟨xs, bs, h1, h2, q⟩ := q
  exact ⟨xs, bs, h1, h2, h _ _ q⟩
theorem mono_gAny : MonoN gAny := fun ts S Q Q' h q => by
  unfold gAny at q ⊢
  split <;> simp only at q
  obtain ⟨xs, bs, h1, h2, q⟩ := q
  exact ⟨xs, bs, h1, h2, h _ _ q⟩
theorem boolsOf_rel {K : PySem.W.Frag} {H : Hp} {m : List Addr} : ∀ {ts : List T} {vs : List V} {bs : List Bool}, RelTs K H m ts vs → boolsOf ts = some bs → vs = bs.map V.bl
  | _, _, _, .nil, e => by cases e; rfl
  | _, _, bs, .cons (t := t) (ts := ts) r rr, e => by
    cases r <;> simp only [boolsOf] at e <;> first | (cases e; done) | skip
    cases e2 : boolsOf ts with
    | none => rw [e2] at e; cases e
    | some b2 =>
      rw [e2] at e
      cases e
      rw [boolsOf_rel rr e2]
      rfl
theorem lstOf_rel {K : PySem.W.Frag} {CA : ClsAt} {H : Hp} {m : List Addr} {S : Sta} {x : T} {v : V} {xs : List T} (rs : RelS K CA H m S) (r : RelT K H m x v) (e : lstOf S x = some xs) : ∃ a vs, v = .ref a ∧ SqL K H a vs ∧ RelTs K H m xs vs := by
  cases r <;> simp only [lstOf] at e <;> first | (cases e; done) | skip
  · cases e
    rename_i hs rr
    exact ⟨_, _, rfl, hs.l, rr⟩
  · rename_i hm
    split at e
    · rename_i ec
      cases e
      obtain ⟨a, e3, vs, e4, rb⟩ := rs.get ec
      rw [hm] at e3; cases e3
      exact ⟨_, _, rfl, SqL.of e4, rb⟩
    · cases e
section
variable {X : Cx} {CA : ClsAt}
theorem bi_all (hc : X.calm = true) : BiR X CA (.builtin "all") gAll := by
  intro pins s σ H xs us Q I r h
  obtain ⟨m, S, ts, rs, rt, h⟩ := h
  unfold gAll at h
  split at h
  · obtain ⟨v, rfl, r1⟩ := relTs1 rt
    obtain ⟨xs, bs, h1, h2, h⟩ := h
    obtain ⟨a, vs, rfl, hs, rr⟩ := lstOf_rel rs r1 h1
    have e := boolsOf_rel rr h2
    subst e
    exact cr_all hc pins s σ H _ us Q I r ⟨a, bs, rfl, hs, h m H _ .rfl' rs (.bl _)⟩
  · exact h.elim
theorem bi_any (hc : X.calm = true) : BiR X CA (.builtin "any") gAny := by
  intro pins s σ H xs us Q I r h
  obtain ⟨m, S, ts, rs, rt, h⟩ := h
  unfold gAny at h
  split at h
  · obtain ⟨v, rfl, r1⟩ := relTs1 rt
    obtain ⟨xs, bs, h1, h2, h⟩ := h
    obtain ⟨a, vs, rfl, hs, rr⟩ := lstOf_rel rs r1 h1
    have e := boolsOf_rel rr h2
    subst e
    exact cr_any hc pins s σ H _ us Q I r ⟨a, bs, rfl, hs, h m H _ .rfl' rs (.bl _)⟩
  · exact h.elim
end
end TR
set_option Elab.async false
set_option linter.all false
set_option maxRecDepth 100000
set_option maxHeartbeats 2000000
/-! TR12: a, *b = x; stores into lists, dicts, objects. -/
namespace TR
open PySem PySem.Spec L2
open PyProof.Rows hiding St

section
variable {prog : Program} {w : World} {A : Around} {E : Value → Shared → Prop} {s : Shared}
theorem star_take {items : Array Value} {l : Addr} {n i : Nat} {Q : List Value → Shared → Prop} (hh : A.handled = none) (hi : i < n) (hn : n ≤ items.size + 1) (hz : items.size ≤ sizeLine) (hl : IsTup s.heap l items ∨ s.heap.IsList l items)
    (h : ∀ (h₂ : Heap) (tk : Nat), (∀ b o, s.heap.get? b = some o → h₂.get? b = some o) → Q (items.toList.take i ++ [.ref h₂.objs.size] ++ (items.toList.drop i).drop (items.size + 1 - n)) { s with heap := h₂.push { cls := .type "list", data := .seq ((items.toList.drop i).take (items.size + 1 - n)).toArray }, toks := tk }) :
    wpAny (model prog w) A (unpackItems (.ref l) n (some i)) Q E s := by
  have lt : l < s.heap.objs.size := by
    rcases hl with ⟨o, ho, _⟩ | ⟨o, ho, _⟩
    · exact Heap.lt_size ho
    · exact Heap.lt_size ho
  have ne : l ≠ s.heap.objs.size := Nat.ne_of_lt lt
  have l1 : (items.toList.take i).length = i := by rw [List.length_take, Array.length_toList]; omega
  have l2 : (items.toList.drop i).length = items.size - i := by rw [List.length_drop, Array.length_toList]
  have l3 : (items.toList.drop i).length - (n - 1 - i) = items.size + 1 - n := by rw [l2]; omega
  have tail : ∀ (h₁ : Heap), (∀ b o, b ≠ s.heap.objs.size → s.heap.get? b = some o → h₁.get? b = some o) →
      (∀ (Q' : List Value → Shared → Prop), (∀ (h₂ : Heap) (tk : Nat), (∀ b o, b ≠ s.heap.objs.size → h₁.get? b = some o → h₂.get? b = some o) → Q' (items.toList.drop i) { s with heap := h₂, toks := tk }) → wpAny (model prog w) A (collect (.ref s.heap.objs.size)) Q' E { s with heap := h₁ }) →
      wpAny (model prog w) A (do
        let rest ← holding (items.toList.take i) (collect (.ref s.heap.objs.size))
        let after := n - 1 - i
        if rest.length < after then
          rule "unpack.star.too-few"
          raiseError "ValueError" s!"not enough values to unpack (expected at least {n - 1}, got {i + rest.length})"
        let mid := rest.length - after
        return items.toList.take i ++ [← newList (rest.take mid)] ++ rest.drop mid) Q E { s with heap := h₁ } := fun h₁ k1 hc => by
    refine wpAny_bind (wpAny_holding (hc _ fun h₂ tk k2 => ?_))
    show wpAny _ _ (if (items.toList.drop i).length < n - 1 - i then _ else _) _ _ _
    rw [if_neg (by rw [l2]; omega)]
    show wpAny _ _ (newList ((items.toList.drop i).take ((items.toList.drop i).length - (n - 1 - i))) >>= fun d => pure (items.toList.take i ++ [d] ++ (items.toList.drop i).drop ((items.toList.drop i).length - (n - 1 - i)))) _ _ _
    rw [l3]
    refine wpAny_bind (wpAny_newList (wpAny_pure (h h₂ tk fun b o e => k2 b o (Nat.ne_of_lt (Heap.lt_size e)) (k1 b o (Nat.ne_of_lt (Heap.lt_size e)) e))) ?_)
    rw [List.length_take, l2]; omega
  unfold unpackItems
  rcases hl with hl | hl
  · refine wpAny_bind ?_
    unfold notIterableAtAll
    refine wpAny_bind (wpAny_specialOf hl.typeIs slot_tuple_iter.lookup ?_)
    refine wpAny_pure ?_
    simp only [Bool.false_eq_true, if_false]
    refine wpAny_bind (wpAny_holding (iter_tuple hl ?_))
    refine wpAny_bind (wpAny_holding (draw_tuple ne i 0 _ _ ⟨_, Heap.get?_push_size _ rfl, rfl, rfl⟩ (hl.push _) (by omega) fun h₁ it₁ sb => ?_))
    have t1 : IsTup h₁ l items := (hl.push _).extBut sb.extBut ne
    rw [Nat.zero_add] at it₁
    obtain ⟨oi, hoi, _⟩ := id it₁
    obtain ⟨ol, hol, _⟩ := id t1
    rw [List.drop_zero]
    rw [if_neg (show ¬ ((items.toList.take i).length < i) by rw [l1]; omega)]
    exact tail h₁ (fun b o hb e => sb.extBut b o hb (Heap.get?_push_of_some _ e)) fun Q' hq => PySem.W.kun_collect (T := "tuple_iterator") (.inr (.inr (.inr rfl))) (Walks.tuple (A := A.in1) hh s.heap.objs.size l ne items) (fun j u st => st.1.typeIs) (k := i) (by omega) ⟨it₁, t1⟩ (Heap.lt_size hoi) (Heap.lt_size hol)
      (fun h₂ tk hk => hq h₂ tk hk) hz
  · refine wpAny_bind ?_
    unfold notIterableAtAll
    refine wpAny_bind (wpAny_specialOf hl.typeIs slot_list_iter.lookup ?_)
    refine wpAny_pure ?_
    simp only [Bool.false_eq_true, if_false]
    refine wpAny_bind (wpAny_holding (wpAny_pyIter_list hl ?_))
    refine wpAny_bind (wpAny_holding (PySem.W.kun_draw ne i 0 _ _ ⟨_, Heap.get?_push_size _ rfl, rfl, rfl⟩ (hl.push _) (by omega) fun h₁ it₁ sb => ?_))
    have t1 : h₁.IsList l items := (hl.push _).extBut sb.extBut ne
    rw [Nat.zero_add] at it₁
    obtain ⟨oi, hoi, _⟩ := id it₁
    obtain ⟨ol, hol, _⟩ := id t1
    rw [List.drop_zero]
    rw [if_neg (show ¬ ((items.toList.take i).length < i) by rw [l1]; omega)]
    exact tail h₁ (fun b o hb e => sb.extBut b o hb (Heap.get?_push_of_some _ e)) fun Q' hq => PySem.W.kun_collect (T := "list_iterator") (.inr (.inr (.inl rfl))) (Walks.list (A := A.in1) hh s.heap.objs.size l ne items) (fun j u st => st.1.typeIs) (k := i) (by omega) ⟨it₁, t1⟩ (Heap.lt_size hoi) (Heap.lt_size hol)
      (fun h₂ tk hk => hq h₂ tk hk) hz
end
/-- (a, .., *b, .., c) = a tuple or a list: n targets, the i-th starred -/
def gStar (K : PySem.W.Frag) (n i : Nat) (t : TGs) : TG := fun v σ H Q => ∃ a xs, v = .ref a ∧ (SqT K H a xs ∨ SqL K H a xs) ∧ i < n ∧ n ≤ xs.length + 1 ∧
  ∀ D, H D = none → t (xs.take i ++ [.ref D] ++ (xs.drop i).drop (xs.length + 1 - n)) σ (upd H D (.lst ((xs.drop i).take (xs.length + 1 - n)))) Q
theorem pg_star {X : Cx} {pos : Pos} {es : List Expr} {k : Nat} {t : TGs} {n i : Nat} (hc : X.calm = true) (h : PGs X es t) (hn : (assignEach es X.env).length = n) (hst : (assignEach es X.env).findIdx? (·.1) = some i) : PG X (.Tuple es k pos) (gStar X.K n i t) := by
  refine ⟨fun pins s σ H v u Q I r hw => ?_⟩
  obtain ⟨a, xs, rfl, hq, hi, hl, hw⟩ := hw
  cases r
  obtain ⟨its, rv, hz, pl⟩ : ∃ its, Vals xs its ∧ xs.length ≤ sizeLine ∧ (IsTup s.heap a its.toArray ∨ s.heap.IsList a its.toArray) := by
    rcases hq with hq | hq
    · obtain ⟨its, rv, pl, hz⟩ := I.tuple hq
      exact ⟨its, rv, hz, .inl pl⟩
    · obtain ⟨its, rv, pl, hz⟩ := I.list hq
      exact ⟨its, rv, hz, .inr pl.isList⟩
  have el := rv.length
  rw [PyProof.Rows.assign_Tuple]
  refine wpAny_bind (wpAny_standAt ?_)
  unfold unpack
  rw [hn, hst]
  refine wpAny_bind (wpAny_holding (star_take (I.ok.hd hc) hi (by rw [List.size_toArray, ← el]; exact hl) (by rw [List.size_toArray, ← el]; exact hz) pl fun h₂ tk hk => ?_))
  have I1 : Inv X pins σ H { s with heap := h₂, toks := tk } := I.kept hk
  have hn1 : H h₂.objs.size = none := I1.hok.fresh (Nat.le_refl _)
  have e2 : its.toArray.size + 1 - n = xs.length + 1 - n := by rw [List.size_toArray, el]
  rw [e2, show its.toArray.toList = its from rfl]
  have rm : Vals ((xs.drop i).take (xs.length + 1 - n)) ((its.drop i).take (xs.length + 1 - n)) := (rv.drop i).take _
  have I2 : Inv X pins σ (upd H h₂.objs.size (.lst ((xs.drop i).take (xs.length + 1 - n)))) { s with heap := h₂.push { cls := .type "list", data := .seq ((its.drop i).take (xs.length + 1 - n)).toArray }, toks := tk } :=
    Inv.lnew (s := { s with heap := h₂, toks := tk }) I1 rm (by rw [List.length_take, List.length_drop]; omega)
  exact h.run pins _ σ _ _ _ Q I2 (((rv.take i).append (.cons (show RelV (.ref h₂.objs.size) (.ref h₂.objs.size) from rfl) .nil)).append ((rv.drop i).drop _)) (hw _ hn1)
def wgStar (n i : Nat) (ws : Wgs) : Wg := fun t ρ S Q => ∃ ts, seqOf S t = some ts ∧ i < n ∧ n ≤ ts.length + 1 ∧
  ws (ts.take i ++ [.obj S.length] ++ (ts.drop i).drop (ts.length + 1 - n)) ρ (S ++ [.lst ((ts.drop i).take (ts.length + 1 - n))]) Q
theorem mono_gstar {n i : Nat} {ws : Wgs} (b : MonoGs ws) : MonoG (wgStar n i ws) := fun t _ _ _ _ h q => by
  obtain ⟨ts, h1, h2, h3, q⟩ := q
  exact ⟨ts, h1, h2, h3, b _ _ _ _ _ h q⟩
theorem seqOf_rel {K : PySem.W.Frag} {CA : ClsAt} {H : Hp} {m : List Addr} {S : Sta} {x : T} {v : V} {xs : List T} (rs : RelS K CA H m S) (r : RelT K H m x v) (e : seqOf S x = some xs) : ∃ a vs, v = .ref a ∧ (SqT K H a vs ∨ SqL K H a vs) ∧ RelTs K H m xs vs := by
  cases r <;> simp only [seqOf] at e <;> first | (cases e; done) | skip
  · cases e
    rename_i hs rr
    exact ⟨_, _, rfl, .inl hs, rr⟩
  · cases e
    rename_i hs rr
    exact ⟨_, _, rfl, .inr hs.l, rr⟩
  · rename_i hm
    split at e
    · rename_i ec
      cases e
      obtain ⟨a, e3, vs, e4, rb⟩ := rs.get ec
      rw [hm] at e3; cases e3
      exact ⟨_, _, rfl, .inr (SqL.of e4), rb⟩
    · cases e
section
variable {X : Cx} {CA : ClsAt} {pos : Pos}
theorem pxg_star {es : List Expr} {k : Nat} {ws : Wgs} {n i : Nat} (hc : X.calm = true) (mb : MonoGs ws) (h : PXGs X CA es ws) (hn : (assignEach es X.env).length = n) (hst : (assignEach es X.env).findIdx? (·.1) = some i) : PXG X CA (.Tuple es k pos) (wgStar n i ws) :=
  PG.imp (pg_star hc h hn hst) fun v σ H Q q => by
    obtain ⟨m, ρ, S, t, rs, re, rt, ts, e, hi, hl, q⟩ := q
    obtain ⟨a, vs, rfl, hs, rr⟩ := seqOf_rel rs rt e
    refine ⟨a, vs, rfl, hs, hi, by rw [← rr.length]; exact hl, fun D hD => ?_⟩
    rw [← rr.length]
    have kp := Step.push (m := m) (o := .lst ((vs.drop i).take (ts.length + 1 - n))) hD
    refine ⟨m ++ [D], ρ, _, _, push_lst rs hD ((rr.drop i).take _), re.mono kp, ?_, mb _ _ _ _ _ (fun ρ2 S2 q m2 H2 σ2 k2 => q m2 H2 σ2 (kp.trans k2)) q⟩
    exact (((rr.mono kp).take i).append (.cons (obj_new rs.len) .nil)).append (((rr.mono kp).drop i).drop _)
end

/-! ### x[i] = v -/
def dput (kvs : List (T × T)) (k v : T) : List (T × T) := if (kvs.any fun p => keyEq p.1 k) = true then kvs.map (fun p => if keyEq p.1 k = true then (p.1, v) else p) else kvs ++ [(k, v)]
def setW (o i v : T) (S : Sta) (Q : Sta → Prop) : Prop :=
  match o with
  | .obj j => (match S[j]? with
    | some (.lst xs) => (match i with
      | .int k => ∃ n, ixN xs.length k = some n ∧ Q (S.set j (.lst (xs.set n v)))
      | _ => False)
    | some (.dct kvs) => isKey i = true ∧ kvs.length < sizeLine ∧ Q (S.set j (.dct (dput kvs i v)))
    | _ => False)
  | _ => False
theorem setW_mono {o i v : T} {S : Sta} {Q Q' : Sta → Prop} (h : ∀ S, Q S → Q' S) (q : setW o i v S Q) : setW o i v S Q' := by
  unfold setW at q ⊢
  split <;> simp only at q
  split <;> rename_i e <;> simp only [e] at q
  · split <;> simp only at q
    obtain ⟨n, e, q⟩ := q
    exact ⟨n, e, h _ q⟩
  · exact ⟨q.1, q.2.1, h _ q.2.2⟩
theorem dput_rel {K : PySem.W.Frag} {H : Hp} {m : List Addr} {kvs : List (T × T)} {l : List (Key × V)} (r : RelD K H m kvs l) {x t : T} {k : Key} {v : V} (hk : keyOf x = some k) (rv : RelT K H m t v) : RelD K H m (dput kvs x t) (putK l k v) := by
  have any : (kvs.any fun p => keyEq p.1 x) = (l.any fun kv => decide (kv.1 = k)) := by
    induction r with
    | nil => rfl
    | cons h _ ih => rw [List.any_cons, List.any_cons, ih, keyEq_iff h.1 hk]
  unfold dput putK
  rw [any]
  split
  · clear any
    rename_i zz
    clear zz
    induction r with
    | nil => exact .nil
    | @cons p q _ _ h _ ih =>
      rw [List.map_cons, List.map_cons]
      refine .cons ?_ ih
      rw [keyEq_iff h.1 hk]
      by_cases z : q.1 = k
      · rw [if_pos (decide_eq_true z), if_pos z]
        exact ⟨h.1, rv⟩
      · rw [if_neg (by rw [decide_eq_false z]; exact Bool.false_ne_true), if_neg z]
        exact h
  · clear any
    rename_i zz
    clear zz
    induction r with
    | nil => exact .cons ⟨hk, rv⟩ .nil
    | cons h _ ih => exact .cons h ih
theorem putLst {K : PySem.W.Frag} {CA : ClsAt} {H : Hp} {m : List Addr} {S : Sta} (rs : RelS K CA H m S) {j : Nat} {a : Addr} {us : List V} (hm : m[j]? = some a) (e : H a = some (.lst us)) {ts : List T} {vs : List V} (r : RelTs K H m ts vs) :
    Step m H m (upd H a (.lst vs)) ∧ RelS K CA (upd H a (.lst vs)) m (S.set j (.lst ts)) := by
  have k : Step m H m (upd H a (.lst vs)) := Step.put (List.mem_of_getElem? hm) e (fun _ z => by cases z) (fun _ _ z => by cases z)
  exact ⟨k, rs.put hm k ⟨vs, upd_same, r.mono k⟩⟩
theorem putDct {K : PySem.W.Frag} {CA : ClsAt} {H : Hp} {m : List Addr} {S : Sta} (rs : RelS K CA H m S) {j : Nat} {a : Addr} {us : List (Key × V)} (hm : m[j]? = some a) (e : H a = some (.dK us)) {ts : List (T × T)} {vs : List (Key × V)} (r : RelD K H m ts vs) :
    Step m H m (upd H a (.dK vs)) ∧ RelS K CA (upd H a (.dK vs)) m (S.set j (.dct ts)) := by
  have k : Step m H m (upd H a (.dK vs)) := Step.put (List.mem_of_getElem? hm) e (fun _ z => by cases z) (fun _ _ z => by cases z)
  exact ⟨k, rs.put hm k ⟨vs, upd_same, Paired.imp (fun _ _ q => ⟨q.1, q.2.mono k⟩) r⟩⟩
section
variable {X : Cx} {CA : ClsAt} {pos : Pos}
theorem psw (hu : X.A.units + 1 < cLine) : PSet X fun o i v H Q => ∃ m S x y t, RelS X.K CA H m S ∧ RelT X.K H m x o ∧ RelT X.K H m y i ∧ RelT X.K H m t v ∧ setW x y t S fun S' => ∀ H', Step m H m H' → RelS X.K CA H' m S' → Q H' := by
  intro pins s σ H o i v ov iv u Q I ro ri rv h
  obtain ⟨m, S, x, y, t, rs, rx, ry, rt, h⟩ := h
  unfold setW at h
  split at h
  · cases rx with
    | obj hm =>
      split at h
      · rename_i ec
        split at h
        · cases ry
          obtain ⟨n, en, q⟩ := h
          obtain ⟨a, e3, vs, e4, rb⟩ := rs.get ec
          rw [hm] at e3; cases e3
          obtain ⟨k1, r1⟩ := putLst rs hm e4 (RelTs.set rt n rb)
          exact set_list pins s σ H _ _ v ov iv u Q I ro ri rv ⟨_, vs, _, n, rfl, rfl, e4, by rw [← rb.length]; exact en, q _ k1 r1⟩
        · exact h.elim
      · rename_i ec
        obtain ⟨a, e3, l, e4, rd⟩ := rs.get ec
        rw [hm] at e3; cases e3
        obtain ⟨hk, hz, q⟩ := h
        obtain ⟨k, hk⟩ := isKey_of hk
        have ev := keyOf_v hk ry
        subst ev
        obtain ⟨k1, r1⟩ := putDct rs hm e4 (dput_rel rd hk rt)
        exact set_dict hu pins s σ H _ _ v ov iv u Q I ro ri rv ⟨_, _, rfl, DPut.k e4 (by rw [← Paired.len rd]; exact hz), q _ k1 r1⟩
      · exact h.elim
  · exact h.elim
def wgSub (wo wi : Wp) : Wg := fun t ρ S Q => wo ρ S fun x S1 => wi ρ S1 fun y S2 => setW x y t S2 fun S3 => Q ρ S3
theorem mono_gsub {wo wi : Wp} (a : MonoW wo) (b : MonoW wi) : MonoG (wgSub wo wi) := fun _ _ _ _ _ h q => a _ _ _ _ (fun _ _ q => b _ _ _ _ (fun _ _ q => setW_mono (fun _ q => h _ _ q) q) q) q
theorem pxg_sub {o i : Expr} {wo wi : Wp} (hu : X.A.units + 1 < cLine) (mo : MonoW wo) (mi : MonoW wi) (ho : PX X CA o wo) (hi : PX X CA i wi)
    (ha : ∀ v, assign (.Subscript o i pos) X.env v = (do
      let ov ← holding [v] (eval o X.env)
      let iv ← holding [v, ov] (eval i X.env)
      standAt pos
      holding [v, ov, iv] (setItem ov iv v)
      release [v, ov, iv] [])) : PXG X CA (.Subscript o i pos) (wgSub wo wi) :=
  PG.imp (pg_sub ho hi (psw (CA := CA) hu) ha) fun v σ H Q q => by
    obtain ⟨m, ρ, S, t, rs, re, rt, q⟩ := q
    refine lift_of mo rs re q fun x S1 m1 H1 v1 k1 rs1 re1 rx q => ?_
    refine lift_of mi rs1 re1 q fun y S2 m2 H2 v2 k2 rs2 re2 ry q => ?_
    refine ⟨m2, S2, x, y, t, rs2, rx.mono k2, ry, rt.mono (k1.trans k2), setW_mono (fun S3 q H3 k3 rs3 => ?_) q⟩
    exact q m2 H3 σ ((k1.trans k2).trans k3) rs3 (re2.mono k3)

/-! ### x.f = v -/
def fput (f : List Nat) (v : T) : List (List Nat × T) → List (List Nat × T)
  | [] => [(f, v)]
  | p :: r => if p.1 = f then (f, v) :: r else p :: fput f v r
def fldW (noat : List Nat → List Nat → Bool) (f : List Nat) (o v : T) (S : Sta) (Q : Sta → Prop) : Prop :=
  match o with
  | .obj j => (match S[j]? with
    | some (.ins c fs) => noat c f = true ∧ fs.length < 1000 ∧ Q (S.set j (.ins c (fput f v fs)))
    | _ => False)
  | _ => False
theorem fldW_mono {noat : List Nat → List Nat → Bool} {f : List Nat} {o v : T} {S : Sta} {Q Q' : Sta → Prop} (h : ∀ S, Q S → Q' S) (q : fldW noat f o v S Q) : fldW noat f o v S Q' := by
  unfold fldW at q ⊢
  split <;> simp only at q
  split <;> rename_i e <;> simp only [e] at q
  exact ⟨q.1, q.2.1, h _ q.2.2⟩
theorem fput_rel {K : PySem.W.Frag} {H : Hp} {m : List Addr} {f : List Nat} {t : T} {v : V} (rv : RelT K H m t v) : ∀ {fs : List (List Nat × T)} {l : List (Str × V)}, RelF K H m fs l → RelF K H m (fput f t fs) (putF (mkS f) v l)
  | _, _, .nil => .cons ⟨rfl, rv⟩ .nil
  | _, _, .cons (a := p) (b := q) h r => by
    obtain ⟨pn, pt⟩ := p
    obtain ⟨qn, qv⟩ := q
    obtain ⟨h1, h2⟩ := h
    simp only at h1 h2
    subst h1
    unfold fput putF
    by_cases e : pn = f
    · subst e
      rw [if_pos rfl, if_pos rfl]
      exact .cons ⟨rfl, rv⟩ r
    · rw [if_neg e, if_neg fun z => e (mkS_inj z)]
      exact .cons ⟨rfl, h2⟩ (fput_rel rv r)
def wsFld (noat : List Nat → List Nat → Bool) (f : List Nat) (wo wv : Wp) : Ws := fun D ρ S => wv ρ S fun v S1 => wo ρ S1 fun x S2 => fldW noat f x v S2 fun S3 => D.nx ρ S3
theorem mono_sfld {noat : List Nat → List Nat → Bool} {f : List Nat} {wo wv : Wp} (a : MonoW wo) (b : MonoW wv) : MonoS (wsFld noat f wo wv) := fun _ _ _ _ h q => b _ _ _ _ (fun _ _ q => a _ _ _ _ (fun _ _ q => fldW_mono (fun _ q => h.nx _ _ q) q) q) q
theorem pxs_fld {noat : List Nat → List Nat → Bool} (K0 : ClsOk X.K CA noat) {f : Str} {o value : Expr} {pos' : Pos} {wo wv : Wp} (mo : MonoW wo) (mv : MonoW wv) (ho : PX X CA o wo) (hv : PX X CA value wv) (hs : swapsWith value (some (.Attribute o f pos')) pos.line X.env = pure false) :
    PXS X CA (.Assign [.Attribute o f pos'] value pos) (wsFld noat f.cps.toList wo wv) :=
  PS.imp (ps_fld ho hv hs) fun D σ H q => by
    obtain ⟨m, ρ, S, rs, re, q⟩ := q
    refine lift_of mv rs re q fun t S1 m1 H1 v1 k1 rs1 re1 rt q => ?_
    refine lift_of mo rs1 re1 q fun x S2 m2 H2 v2 k2 rs2 re2 rx q => ?_
    unfold fldW at q
    split at q
    · cases rx with
      | obj hm =>
        split at q
        · rename_i c fs ec
          obtain ⟨h1, h2, q⟩ := q
          obtain ⟨a, e3, C, dx, l, hC, e4, rf⟩ := rs2.get ec
          rw [hm] at e3; cases e3
          have hn := K0.no c C _ hC h1
          rw [mkS_toList] at hn
          refine ⟨_, C, dx, l, rfl, e4, K0.cls c C hC, hn, by rw [← Paired.len rf]; exact h2, ?_⟩
          have k3 : Step m2 H2 m2 (upd H2 _ (.ins C dx (putF f v1 l))) := Step.put (List.mem_of_getElem? hm) e4 (fun _ z => by cases z) (fun _ _ z => by cases z)
          have rr := fput_rel (f := f.cps.toList) (rt.mono k2) rf
          rw [mkS_toList] at rr
          exact q m2 _ σ ((k1.trans k2).trans k3) (rs2.put hm k3 ⟨C, dx, _, hC, upd_same, Paired.imp (fun _ _ q => ⟨q.1, q.2.mono k3⟩) rr⟩) (re2.mono k3)
        · exact q.elim
    · exact q.elim
end
end TR
set_option Elab.async false
set_option linter.all false
set_option maxRecDepth 100000
set_option maxHeartbeats 2000000
/-! TR13: calls of one's own functions, methods, classes; methods of builtin types. -/
namespace TR
open PySem PySem.Spec L2
open PyProof.Rows hiding St

/-! ### the trees of arguments -/
def notStar : Expr → Bool
  | .Starred _ _ => false
  | _ => true
theorem star_cons {e : Expr} {es : List Expr} {env : Env} (h : notStar e = true) : starEach (e :: es) env = (false, eval e env) :: starEach es env := by
  cases e <;> first | rfl | cases h
theorem back_any {pos : Pos} {env : Env} : ∀ {es : List Expr}, es.all notStar = true → (backTo pos (starEach es env)).any (·.1) = false
  | [], _ => rfl
  | e :: es, h => by
    rw [List.all_cons, Bool.and_eq_true] at h
    rw [star_cons h.1]
    show (false || (backTo pos (starEach es env)).any (·.1)) = false
    rw [back_any h.2]
    rfl
theorem back_all {pos : Pos} {env : Env} : ∀ {es : List Expr}, es.all notStar = true → (backTo pos (starEach es env)).all (fun x => !x.1) = true
  | [], _ => rfl
  | e :: es, h => by
    rw [List.all_cons, Bool.and_eq_true] at h
    rw [star_cons h.1]
    show (!false && (backTo pos (starEach es env)).all (fun x => !x.1)) = true
    rw [back_all h.2]
    rfl
def kwNamed (kws : List Keyword) : Bool := kws.all fun k => k.1.isSome
theorem kw_all {pos : Pos} {env : Env} : ∀ {kws : List Keyword}, kwNamed kws = true → (backToKw pos (keywordEach kws env)).all (·.1.isSome) = true
  | [], _ => rfl
  | ⟨n, v, p⟩ :: kws, h => by
    unfold kwNamed at h
    rw [List.all_cons, Bool.and_eq_true] at h
    show (n.isSome && (backToKw pos (keywordEach kws env)).all (·.1.isSome)) = true
    rw [h.1, kw_all (kws := kws) h.2]
    rfl
theorem kw_any {pos : Pos} {env : Env} : ∀ {kws : List Keyword}, kwNamed kws = true → (backToKw pos (keywordEach kws env)).any (·.1.isNone) = false
  | [], _ => rfl
  | ⟨n, v, p⟩ :: kws, h => by
    unfold kwNamed at h
    rw [List.all_cons, Bool.and_eq_true] at h
    show (n.isNone || (backToKw pos (keywordEach kws env)).any (·.1.isNone)) = false
    rw [kw_any (kws := kws) h.2, Option.isNone_eq_false_iff.mpr h.1]
    rfl
def kwNames (kws : List Keyword) : List Str := kws.filterMap fun k => k.1
theorem kw_names {pos : Pos} {env : Env} : ∀ {kws : List Keyword}, (backToKw pos (keywordEach kws env)).filterMap (·.1) = kwNames kws
  | [] => rfl
  | ⟨n, v, p⟩ :: kws => by
    show List.filterMap (fun x => x.1) ((n, do let v ← eval v env; standAt pos; pure v) :: backToKw pos (keywordEach kws env)) = _
    unfold kwNames
    rw [List.filterMap_cons, List.filterMap_cons, kw_names (kws := kws)]
    rfl
/-- o.m(..): what is to be seen of the text -/
def methOk (o : Expr) (apos pos : Pos) (es : List Expr) (kws : List Keyword) : Bool := plainBase o && es.all notStar && kwNamed kws && decide (es.length + kws.length + 1 < 30) && apos.endLine == pos.line
theorem few_ok {o : Expr} {apos pos cpos : Pos} {es : List Expr} {kws : List Keyword} {env : Env} (h : methOk o apos pos es kws = true) : methodCallForm (es.length + kws.length) (backTo cpos (starEach es env)) (backToKw cpos (keywordEach kws env)) = true := by
  unfold methOk at h
  simp only [Bool.and_eq_true, decide_eq_true_eq] at h
  obtain ⟨⟨⟨⟨_, h2⟩, h3⟩, h4⟩, _⟩ := h
  unfold methodCallForm
  rw [back_all h2, kw_all h3]
  have : es.length + kws.length + (if (backToKw cpos (keywordEach kws env)).isEmpty = true then 0 else 1) < 30 := by split <;> omega
  simpa using this
theorem meth_eval {o : Expr} {m : Str} {apos pos : Pos} {es : List Expr} {kws : List Keyword} {env : Env} (h : methOk o apos pos es kws = true) : eval (.Call (.Attribute o m apos) es kws pos) env = (do
      let ov ← eval o env
      standAt apos.atName
      let (f, first) ← holding [ov] (getMethod ov m (do return (← importBound o env).getD true))
      callWith pos f first (backTo pos (starEach es env)) (backToKw pos (keywordEach kws env))) := by
  have hf := few_ok (cpos := pos) (env := env) h
  unfold methOk at h
  simp only [Bool.and_eq_true, decide_eq_true_eq] at h
  obtain ⟨⟨⟨⟨h1, h2⟩, h3⟩, h4⟩, h5⟩ := h
  rw [PySem.arm_eval_Call, plainBase_ok h1]
  unfold methodCall
  rw [hf]
  unfold calleeOf methodCallPos
  simp only [h5, Bool.not_true, Bool.false_or, if_true, pure_bind]

/-! ### contracts -/
/-- what a function promises: of n parameters -/
structure Co where
  n : Nat
  run : Gn
  mono : MonoN run
def Co.no (n : Nat) : Co := ⟨n, fun _ _ _ => False, fun _ _ _ _ _ h => h.elim⟩
abbrev CAt := List Nat → Option Addr
def liftSp (K : PySem.W.Frag) (at_ : CAt) (co : Co) : Sp := fun vs H Q _ => vs.length = co.n ∧ ∃ m S ts, RelS K ⟨at_, m, H⟩ H m S ∧ RelTs K H m ts vs ∧ co.run ts S (After K ⟨at_, m, H⟩ m H Q)
theorem RelS.enter {K : PySem.W.Frag} {CA : ClsAt} {H : Hp} {m : List Addr} {S : Sta} (r : RelS K CA H m S) : RelS K ⟨CA.at_, m, H⟩ H m S := r.reb rfl .rfl'
theorem RelS.leave {K : PySem.W.Frag} {CA : ClsAt} {H H' : Hp} {m m' : List Addr} {S S' : Sta} (r : RelS K CA H m S) (k : Step m H m' H') (r' : RelS K ⟨CA.at_, m, H⟩ H' m' S') : RelS K CA H' m' S' := r'.reb rfl (r.from_.trans k)
/-- a call's promise, asked from a body -/
theorem sp_of {K : PySem.W.Frag} {CA : ClsAt} {H0 H : Hp} {m0 m : List Addr} {S : Sta} {co : Co} {ts : List T} {vs : List V} {Q : VK} {E : XK} (rs : RelS K CA H m S) (k : Step m0 H0 m H) (rt : RelTs K H m ts vs) (hl : ts.length = co.n)
    {R : T → Sta → Prop} (h : co.run ts S R) (hR : ∀ t S' m' H' v, Step m H m' H' → RelS K CA H' m' S' → RelT K H' m' t v → R t S' → Q v H') : liftSp K CA.at_ co vs H Q E :=
  ⟨by rw [← rt.length]; exact hl, m, S, ts, rs.enter, rt, co.mono _ _ _ _ (fun t S' q m' H' v k' rs' rt' => hR t S' m' H' v k' (rs.leave k' rs') rt' q) h⟩

/-- a function that may be called by its name with as many arguments, the defaults dts behind -/
structure SiteF (X : Cx) (at_ : CAt) (k : Nat) (x : Str) (dts : List T) (co : Co) : Prop where
  ex : ∃ (f : Addr) (fd : FuncData) (ps : List Str) (ds : List Value) (dvs : List V), FnOk X.prog X.w X.K X.mg X.base CX0 k f fd ps (liftSp X.K at_ co) ∧ X.mg x = some (.ref f) ∧ PySem.W.keepIn X.K (.ref f) = true ∧ Binds X.K fd ps ds ∧ Vals dvs ds ∧ ∀ H m, RelTs X.K H m dts dvs
def wApp (co : Co) (dts : List T) (wa : Wa) : Wp := fun ρ S Q => wa ρ S fun ts S1 => (ts ++ dts).length = co.n ∧ co.run (ts ++ dts) S1 Q
theorem mono_app {co : Co} {dts : List T} {wa : Wa} (a : MonoA wa) : MonoW (wApp co dts wa) := fun _ _ _ _ h q => a _ _ _ _ (fun _ _ q => ⟨q.1, co.mono _ _ _ _ h q.2⟩) q
section
variable {X : Cx} {CA : ClsAt} {pos apos p : Pos} {x m : Str} {e o : Expr} {es : List Expr} {kws : List Keyword} {wa wk : Wa} {wo : Wp} {co : Co} {dts : List T} {k : Nat}
theorem px_app (c : SiteF X CA.at_ k x dts co) (hr : Room k X.A) (hg : Gl X x) (ma : MonoA wa) (ha : PXA X CA (e :: es) wa) (hdb : (x == ("__debug__" : Str)) = false) (hst : (e :: es).all notStar = true) : PX X CA (.Call (.Name x p) (e :: es) [] pos) (wApp co dts wa) := by
  obtain ⟨f, fd, ps, ds, dvs, F, hm, hk, hb, hd, rd⟩ := c.ex
  rw [List.all_cons, Bool.and_eq_true] at hst
  refine PE.imp (pe_call F hr hg hm hk hb hd pass0 ha hdb (star_cons hst.1) (back_any hst.2)) fun σ H Q q => ?_
  obtain ⟨m, ρ, S, rs, re, q⟩ := q
  refine liftA_of ma rs re q fun ts S1 m1 H1 vs k1 rs1 re1 rt q => ?_
  exact sp_of rs1 k1 (rt.append (rd _ _)) q.1 q.2 fun t S' m' H' v k2 rs2 rt2 q => q m' H' v (k1.trans k2) rs2 rt2
theorem px_app0 (c : SiteF X CA.at_ k x dts co) (hr : Room k X.A) (hg : Gl X x) (hdb : (x == ("__debug__" : Str)) = false) : PX X CA (.Call (.Name x p) [] [] pos) (wApp co dts wNil) := by
  obtain ⟨f, fd, ps, ds, dvs, F, hm, hk, hb, hd, rd⟩ := c.ex
  refine PE.imp (pe_call0 F hr hg hm hk hb hd pass0 hdb) fun σ H Q q => ?_
  obtain ⟨m, ρ, S, rs, re, q⟩ := q
  exact sp_of (E := E0) rs .rfl' (RelTs.nil.append (rd _ _)) q.1 q.2 fun t S' m' H' v k2 rs2 rt2 q => q m' H' v k2 rs2 rt2

/-! ### methods of one's own classes -/
structure SiteM (X : Cx) (at_ : CAt) (k : Nat) (c : List Nat) (m : Str) (dts : List T) (co : Co) : Prop where
  ex : ∃ (C f : Addr) (fd : FuncData) (ps : List Str) (ds : List Value) (dvs : List V), at_ c = some C ∧ Cls X.K C ∧ Meth X.K C m f ∧ FnOk X.prog X.w X.K X.mg X.base CX0 k f fd ps (liftSp X.K at_ co) ∧ Binds X.K fd ps ds ∧ Vals dvs ds ∧ ∀ H m, RelTs X.K H m dts dvs
/-- an object of the class, without an attribute of that name -/
def insOf (S : Sta) (c m : List Nat) : T → Prop
  | .obj j => (match S[j]? with
    | some (.ins c' fs) => c' = c ∧ fs.lookup m = none
    | _ => False)
  | _ => False
def wMeth (c m : List Nat) (co : Co) (dts : List T) (wo : Wp) (wa : Wa) : Wp := fun ρ S Q => wo ρ S fun x S1 => insOf S1 c m x ∧ wa ρ S1 fun ts S2 => (x :: (ts ++ dts)).length = co.n ∧ co.run (x :: (ts ++ dts)) S2 Q
theorem mono_meth {c m : List Nat} (o : MonoW wo) (a : MonoA wa) : MonoW (wMeth c m co dts wo wa) := fun _ _ _ _ h q => o _ _ _ _ (fun _ _ q => ⟨q.1, a _ _ _ _ (fun _ _ q => ⟨q.1, co.mono _ _ _ _ h q.2⟩) q.2⟩) q
theorem insOf_rel {K : PySem.W.Frag} {CA : ClsAt} {H : Hp} {m : List Addr} {S : Sta} {x : T} {v : V} {c : List Nat} {f : Str} {C : Addr} (rs : RelS K CA H m S) (r : RelT K H m x v) (hC : CA.at_ c = some C) (h : insOf S c f.cps.toList x) : ∃ a dx fs, v = .ref a ∧ H a = some (.ins C dx fs) ∧ fs.lookup f = none := by
  cases r <;> simp only [insOf] at h
  rename_i hm
  split at h
  · rename_i ec
    obtain ⟨rfl, hn⟩ := h
    obtain ⟨a, e3, C', dx, l, hC', e4, rf⟩ := rs.get ec
    rw [hm] at e3; cases e3
    rw [hC] at hC'; cases hC'
    rcases relF_lookup rf f.cps.toList with ⟨_, z⟩ | ⟨t', w, z1, z2, rw'⟩
    · rw [mkS_toList] at z
      exact ⟨_, dx, l, rfl, e4, z⟩
    · rw [hn] at z1; cases z1
  · exact h.elim
theorem px_meth {c : List Nat} (st : SiteM X CA.at_ k c m dts co) (hr : Room k X.A) (mo : MonoW wo) (ma : MonoA wa) (ho : PX X CA o wo) (ha : PXA X CA (e :: es) wa) (hf : methOk o apos pos (e :: es) [] = true) : PX X CA (.Call (.Attribute o m apos) (e :: es) [] pos) (wMeth c m.cps.toList co dts wo wa) := by
  obtain ⟨C, f, fd, ps, ds, dvs, hC, cl, hm, F, hb, hd, rd⟩ := st.ex
  have hst : (e :: es).all notStar = true := by
    unfold methOk at hf
    simp only [Bool.and_eq_true] at hf
    exact hf.1.1.1.2
  rw [List.all_cons, Bool.and_eq_true] at hst
  refine PE.imp (pe_meth ho cl hm F hr hb hd pass0 ha (star_cons hst.1) (back_any hst.2) (meth_eval hf)) fun σ H Q q => ?_
  obtain ⟨m, ρ, S, rs, re, q⟩ := q
  refine lift_of mo rs re q fun x S1 m1 H1 v k1 rs1 re1 rx q => ?_
  obtain ⟨hi, q⟩ := q
  obtain ⟨a, dx, fs, rfl, ea, hl⟩ := insOf_rel rs1 rx hC hi
  refine ⟨a, dx, fs, rfl, ea, hl, ?_⟩
  refine liftA_of ma rs1 re1 q fun ts S2 m2 H2 vs k2 rs2 re2 rt q => ?_
  exact sp_of rs2 k2 (.cons (rx.mono k2) (rt.append (rd _ _))) q.1 q.2 fun t S' m' H' v k3 rs3 rt3 q => q m' H' v ((k1.trans k2).trans k3) rs3 rt3
theorem px_meth0 {c : List Nat} (st : SiteM X CA.at_ k c m dts co) (hr : Room k X.A) (mo : MonoW wo) (ho : PX X CA o wo) (hf : methOk o apos pos [] [] = true) : PX X CA (.Call (.Attribute o m apos) [] [] pos) (wMeth c m.cps.toList co dts wo wNil) := by
  obtain ⟨C, f, fd, ps, ds, dvs, hC, cl, hm, F, hb, hd, rd⟩ := st.ex
  refine PE.imp (pe_meth0 ho cl hm F hr hb hd pass0 (meth_eval hf)) fun σ H Q q => ?_
  obtain ⟨m, ρ, S, rs, re, q⟩ := q
  refine lift_of mo rs re q fun x S1 m1 H1 v k1 rs1 re1 rx q => ?_
  obtain ⟨hi, q⟩ := q
  obtain ⟨a, dx, fs, rfl, ea, hl⟩ := insOf_rel rs1 rx hC hi
  refine ⟨a, dx, fs, rfl, ea, hl, ?_⟩
  exact sp_of (E := E0) rs1 k1 (.cons rx (RelTs.nil.append (rd _ _))) q.1 q.2 fun t S' m' H' v k3 rs3 rt3 q => q m' H' v (k1.trans k3) rs3 rt3

/-! ### .. with keywords: behind the arguments, in the parameters' order -/
/-- n the given ones (the object among them), ks the keywords -/
structure SiteMK (X : Cx) (at_ : CAt) (k : Nat) (c : List Nat) (m : Str) (n : Nat) (ks : List Str) (co : Co) : Prop where
  ex : ∃ (C f : Addr) (fd : FuncData) (ps : List Str), at_ c = some C ∧ Cls X.K C ∧ Meth X.K C m f ∧ FnOk X.prog X.w X.K X.mg X.base CX0 k f fd ps (liftSp X.K at_ co) ∧ KBn X.K fd ps n ks (fun us ws => us ++ ws) (fun vs zs => vs ++ zs)
def tMethK (C : Addr) (m : Str) (n nk : Nat) (sp : Sp) (E : XK) (ta : TE) (t tk : TA) : TE := fun σ H Q => ta σ H fun x H1 => ∃ a dx fs, x = .ref a ∧ H1 a = some (.ins C dx fs) ∧ fs.lookup m = none ∧
  t σ H1 fun vs H2 => tk σ H2 fun zs H3 => vs.length + 1 = n ∧ zs.length = nk ∧ sp (x :: (vs ++ zs)) H3 Q E
theorem pe_methK {CX : CXT} {C f : Addr} {fd : FuncData} {ps ks : List Str} {sp : Sp} {E : XK} {n : Nat} {ta : TE} {t tk : TA} (he : PE X o ta) (c : Cls X.K C) (hm : Meth X.K C m f) (F : FnOk X.prog X.w X.K X.mg X.base CX k f fd ps sp) (hr : Room k X.A) (hb : KBn X.K fd ps n ks (fun us ws => us ++ ws) (fun vs zs => vs ++ zs)) (hx : Passes CX X E)
    (ha : PA X (e :: es) t) (hkw : PK X kws tk) (hks : kwNames kws = ks) (hf : methOk o apos pos (e :: es) kws = true) : PE X (.Call (.Attribute o m apos) (e :: es) kws pos) (tMethK C m n ks.length sp E ta t tk) := by
  have hf' := hf
  unfold methOk at hf
  simp only [Bool.and_eq_true] at hf
  obtain ⟨⟨⟨⟨_, hst⟩, hkn⟩, _⟩, _⟩ := hf
  have hst' := hst
  rw [List.all_cons, Bool.and_eq_true] at hst'
  refine ⟨fun pins s σ H Q I h => ?_⟩
  refine PySem.W.methodCall_KW (thn (he.run pins s σ H _ I h) fun u s1 ⟨x, H1, I1, rx, a, dx, fs, ex, ea, l, q⟩ => ?_) (meth_eval hf')
  subst ex
  obtain rfl : u = Value.ref a := rx
  refine getmeth_ok I1 ea c hm l ?_
  refine PySem.W.callWith_KW (first := [.ref a]) (h₀ := X.base) I.ok.mod.kin hm.kp (kw_all hkn) (thn (ha.run pos pins s1 σ H1 _ I1 q) fun us s2 ⟨vs, H2, I2, r, q2⟩ => ?_) (by rw [back_any hst, kw_any hkn]; rfl) (star_cons hst'.1)
  refine thn (hkw.run pos pins s2 σ H2 _ I2 q2) fun ws s3 ⟨zs, H3, I3, rz, l1, l2, q3⟩ => ⟨I3.kIn, ?_⟩
  rw [kw_names, hks]
  exact run_fnN (us := .ref a :: us) (vs := .ref a :: vs) F hr hb hx I3 (.cons rfl r) rz (by rw [List.length_cons]; exact l1) l2 q3
def wMethK (c m : List Nat) (n nk : Nat) (co : Co) (wo : Wp) (wa wk : Wa) : Wp := fun ρ S Q => wo ρ S fun x S1 => insOf S1 c m x ∧ wa ρ S1 fun ts S2 => wk ρ S2 fun us S3 => ts.length + 1 = n ∧ us.length = nk ∧ (x :: (ts ++ us)).length = co.n ∧ co.run (x :: (ts ++ us)) S3 Q
theorem mono_methK {c m : List Nat} {n nk : Nat} (o : MonoW wo) (a : MonoA wa) (b : MonoA wk) : MonoW (wMethK c m n nk co wo wa wk) := fun _ _ _ _ h q => o _ _ _ _ (fun _ _ q => ⟨q.1, a _ _ _ _ (fun _ _ q => b _ _ _ _ (fun _ _ q => ⟨q.1, q.2.1, q.2.2.1, co.mono _ _ _ _ h q.2.2.2⟩) q) q.2⟩) q
abbrev PXK (X : Cx) (CA : ClsAt) (kws : List Keyword) (w : Wa) : Prop := PK X kws (liftA X.K CA w)
theorem PK.imp {kws : List Keyword} {t t' : TA} (h : PK X kws t) (i : ∀ σ H Q, t' σ H Q → t σ H Q) : PK X kws t' := ⟨fun pos pins s σ H Q I hq => h.run pos pins s σ H Q I (i σ H Q hq)⟩
theorem pxk_nil : PXK X CA [] wNil := PK.imp pk_nil fun σ H Q h => by
  obtain ⟨m, ρ, S, rs, re, q⟩ := h
  exact q m H [] .rfl' rs .nil
theorem pxk_cons {nm : Option Str} {kpos : Pos} {w : Wp} {ws : Wa} (mw : MonoW w) (ms : MonoA ws) (h : PX X CA e w) (hs : PXK X CA kws ws) : PXK X CA (⟨nm, e, kpos⟩ :: kws) (wCons w ws) :=
  PK.imp (pk_cons h hs) fun σ H Q q => by
    obtain ⟨m, ρ, S, rs, re, q⟩ := q
    refine lift_of mw rs re q fun t S1 m1 H1 v k1 rs1 re1 rt q => ?_
    refine liftA_of ms rs1 re1 q fun ts S2 m2 H2 vs k2 rs2 re2 rts q => ?_
    exact q m2 H2 (v :: vs) (k1.trans k2) rs2 (.cons (rt.mono k2) rts)
theorem px_methK {c : List Nat} {n : Nat} {ks : List Str} (st : SiteMK X CA.at_ k c m n ks co) (hr : Room k X.A) (mo : MonoW wo) (ma : MonoA wa) (mk : MonoA wk) (ho : PX X CA o wo) (ha : PXA X CA (e :: es) wa) (hkw : PXK X CA kws wk) (hks : kwNames kws = ks) (hf : methOk o apos pos (e :: es) kws = true) :
    PX X CA (.Call (.Attribute o m apos) (e :: es) kws pos) (wMethK c m.cps.toList n ks.length co wo wa wk) := by
  obtain ⟨C, f, fd, ps, hC, cl, hm, F, hb⟩ := st.ex
  refine PE.imp (pe_methK ho cl hm F hr hb pass0 ha hkw hks hf) fun σ H Q q => ?_
  obtain ⟨m, ρ, S, rs, re, q⟩ := q
  refine lift_of mo rs re q fun x S1 m1 H1 v k1 rs1 re1 rx q => ?_
  obtain ⟨hi, q⟩ := q
  obtain ⟨a, dx, fs, rfl, ea, hl⟩ := insOf_rel rs1 rx hC hi
  refine ⟨a, dx, fs, rfl, ea, hl, ?_⟩
  refine liftA_of ma rs1 re1 q fun ts S2 m2 H2 vs k2 rs2 re2 rt q => ?_
  refine liftA_of mk rs2 re2 q fun us S3 m3 H3 zs k3 rs3 re3 ru q => ?_
  refine ⟨by rw [← rt.length]; exact q.1, by rw [← ru.length]; exact q.2.1, ?_⟩
  exact sp_of rs3 k3 (.cons (rx.mono (k2.trans k3)) ((rt.mono k3).append ru)) q.2.2.1 q.2.2.2 fun t S' m' H' v k4 rs4 rt4 q => q m' H' v (((k1.trans k2).trans k3).trans k4) rs4 rt4

/-! ### new objects -/
structure SiteN (X : Cx) (at_ : CAt) (k : Nat) (x : Str) (c : List Nat) (dts : List T) (co : Co) : Prop where
  ex : ∃ (C f : Addr) (fd : FuncData) (ps : List Str) (ds : List Value) (dvs : List V), at_ c = some C ∧ Mk X.K C f ∧ FnOk X.prog X.w X.K X.mg X.base CX0 k f fd ps (liftSp X.K at_ co) ∧ X.mg x = some (.ref C) ∧ Binds X.K fd ps ds ∧ Vals dvs ds ∧ ∀ H m, RelTs X.K H m dts dvs
def wNew (c : List Nat) (co : Co) (dts : List T) (wa : Wa) : Wp := fun ρ S Q => wa ρ S fun ts S1 => (.obj S1.length :: (ts ++ dts)).length = co.n ∧ co.run (.obj S1.length :: (ts ++ dts)) (S1 ++ [.ins c []]) fun t S2 => isNon t = true ∧ Q (.obj S1.length) S2
theorem mono_new {c : List Nat} (a : MonoA wa) : MonoW (wNew c co dts wa) := fun _ _ _ _ h q => a _ _ _ _ (fun _ _ q => ⟨q.1, co.mono _ _ _ _ (fun _ _ q => ⟨q.1, h _ _ q.2⟩) q.2⟩) q
theorem new_of {C : Addr} {c : List Nat} {m0 m1 : List Addr} {H0 H1 : Hp} {S1 : Sta} {ts : List T} {vs dvs : List V} {Q : VK} {R : T → Sta → Prop} (hC : CA.at_ c = some C) (rd : ∀ H m, RelTs X.K H m dts dvs) (k1 : Step m0 H0 m1 H1) (rs1 : RelS X.K CA H1 m1 S1) (rt : RelTs X.K H1 m1 ts vs)
    (hl : (.obj S1.length :: (ts ++ dts)).length = co.n) (q : co.run (.obj S1.length :: (ts ++ dts)) (S1 ++ [.ins c []]) fun t S2 => isNon t = true ∧ R (.obj S1.length) S2) (hR : ∀ S' m' H' v, Step m0 H0 m' H' → RelS X.K CA H' m' S' → RelT X.K H' m' (.obj S1.length) v → R (.obj S1.length) S' → Q v H') :
    ∀ x dx, H1 x = none → H1 dx = none → dx ≠ x → liftSp X.K CA.at_ co (.ref x :: (vs ++ dvs)) (upd (upd H1 dx (.own x)) x (.ins C dx [])) (fun v H2 => v = .non ∧ Q (.ref x) H2) E0 := by
  intro x dx hx hdx hne
  have ka : Step m1 H1 m1 (upd H1 dx (.own x)) := Step.new hdx
  have hx' : (upd H1 dx (.own x)) x = none := by rw [upd_ne (Ne.symm hne)]; exact hx
  have kb : Step m1 (upd H1 dx (.own x)) (m1 ++ [x]) (upd (upd H1 dx (.own x)) x (.ins C dx [])) := Step.push hx'
  have rs2 := (rs1.new (o := .own x) hdx).push (o := .ins C dx []) (c := .ins c []) hx' ⟨C, dx, [], hC, upd_same, .nil⟩
  have ko : RelT X.K (upd (upd H1 dx (.own x)) x (.ins C dx [])) (m1 ++ [x]) (.obj S1.length) (.ref x) := obj_new rs1.len
  have kk := ka.trans kb
  refine sp_of rs2 kk (.cons ko ((rt.mono kk).append (rd _ _))) hl q fun t S' m' H' v k2 rs3 rt3 q => ?_
  have hv : v = .non := by
    have z := non_iff rt3
    rw [q.1] at z
    exact of_decide_eq_true z
  exact ⟨hv, hR S' m' H' _ ((k1.trans kk).trans k2) rs3 (ko.mono k2) q.2⟩
theorem px_new {c : List Nat} (st : SiteN X CA.at_ k x c dts co) (hr : Room (k + 1) X.A) (hg : Gl X x) (ma : MonoA wa) (ha : PXA X CA (e :: es) wa) (hdb : (x == ("__debug__" : Str)) = false) (hst : (e :: es).all notStar = true) : PX X CA (.Call (.Name x p) (e :: es) [] pos) (wNew c co dts wa) := by
  obtain ⟨C, f, fd, ps, ds, dvs, hC, M, F, hm, hb, hd, rd⟩ := st.ex
  rw [List.all_cons, Bool.and_eq_true] at hst
  refine PE.imp (pe_make M F hr hg hm hb hd pass0 ha hdb (star_cons hst.1) (back_any hst.2)) fun σ H Q q => ?_
  obtain ⟨m, ρ, S, rs, re, q⟩ := q
  refine liftA_of ma rs re q fun ts S1 m1 H1 vs k1 rs1 re1 rt q => ?_
  exact new_of hC rd k1 rs1 rt q.1 q.2 fun S' m' H' v k2 rs2 rt2 q => q m' H' v k2 rs2 rt2
theorem px_new0 {c : List Nat} (st : SiteN X CA.at_ k x c dts co) (hr : Room (k + 1) X.A) (hg : Gl X x) (hdb : (x == ("__debug__" : Str)) = false) : PX X CA (.Call (.Name x p) [] [] pos) (wNew c co dts wNil) := by
  obtain ⟨C, f, fd, ps, ds, dvs, hC, M, F, hm, hb, hd, rd⟩ := st.ex
  refine PE.imp (pe_make0 M F hr hg hm hb hd pass0 hdb) fun σ H Q q => ?_
  obtain ⟨m, ρ, S, rs, re, q⟩ := q
  exact new_of hC rd .rfl' rs .nil q.1 q.2 fun S' m' H' v k2 rs2 rt2 q => q m' H' v k2 rs2 rt2
end
end TR
set_option Elab.async false
set_option linter.all false
set_option maxRecDepth 100000
set_option maxHeartbeats 2000000
/-! TH3: sets of keys with their order's table, so that they can be walked. -/
namespace TR
open PySem PySem.Spec L2
open PyProof.Rows hiding St

/-- a table that can be walked -/
def Walkable (w : World) (t : SetTable) : Prop := Ris t.place.toList ∧ (w.params.followText "set-order" = true ∨ t.led = true)
/-- the set at a has just these members -/
structure SetAs (P : Program) (w : World) (h : Heap) (a : Addr) (o : Obj) (es : Array (Int × Value)) (ep : Nat) (t : SetTable) (vs : List Value) : Prop where
  at_ : h.get? a = some o
  ex : o.ExactSet
  dat : o.data = .set es ep t
  els : ElemsOf (mixKind P w) es.toList
  mem : (es.toList.map (·.2)).Perm vs
  few : es.size < scanBound
  fit : t.fits es.size = true
  wk : Walkable w t
def SetX (P : Program) (w : World) (h : Heap) (a : Addr) (vs : List Value) : Prop := ∃ o es ep t, SetAs P w h a o es ep t vs
section
variable {P : Program} {w : World} {h h' : Heap} {a : Addr} {vs us : List Value} {A : Around} {E : Value → Shared → Prop} {s : Shared}
theorem SetX.kept (R : SetX P w h a vs) (k : ∀ o, h.get? a = some o → h'.get? a = some o) : SetX P w h' a vs :=
  let ⟨o, es, ep, t, r⟩ := R
  ⟨o, es, ep, t, ⟨k o r.at_, r.ex, r.dat, r.els, r.mem, r.few, r.fit, r.wk⟩⟩
theorem SetX.new : SetX P w (h.push { cls := .type "set", dict := none, data := .set #[] 0 (.fresh 0 0 (!w.params.followText "set-order")) }) h.objs.size [] := by
  refine ⟨_, #[], 0, _, Heap.get?_push_size _ rfl, ⟨rfl, rfl, rfl⟩, rfl, fun e he => by simp at he, by simp, by decide, by rfl, List.Pairwise.nil, ?_⟩
  cases w.params.followText "set-order" with
  | true => exact .inl rfl
  | false => exact .inr rfl
theorem SetX.typeIs (R : SetX P w s.heap a vs) : s.TypeIs (.ref a) "set" := let ⟨o, _, _, _, r⟩ := R; ⟨o, r.at_, r.ex.1⟩
theorem SetAs.size {o : Obj} {es : Array (Int × Value)} {ep : Nat} {t : SetTable} (r : SetAs P w h a o es ep t vs) : es.size = vs.length := by
  rw [← r.mem.length_eq, List.length_map, Array.length_toList]
/-- stored anew -/
theorem SetAs.stored {o : Obj} {es es' : Array (Int × Value)} {ep : Nat} {t t' : SetTable} (r : SetAs P w h a o es ep t vs) (e1 : ElemsOf (mixKind P w) es'.toList) (m1 : (es'.toList.map (·.2)).Perm us) (f1 : es'.size < scanBound) (f2 : t'.fits es'.size = true) (wk : Walkable w t') :
    SetAs P w (h.update a (Obj.putSet es' t')) a { o with data := .set es' (ep + 1) t' } es' (ep + 1) t' us :=
  ⟨store_at r.at_ r.dat, r.ex, rfl, e1, m1, f1, f2, wk⟩
/-- the last part of an add: laid down, and the table made larger where it is too full -/
theorem SetAs.close {o : Obj} {es es1 : Array (Int × Value)} {ep : Nat} {t t1 : SetTable} {dum : Bool} {g : Bool → Sem Unit} {R : Option Bool → Shared → Prop} (r : SetAs P w s.heap a o es ep t vs)
    (hg : ∀ (b : Bool) (s1 : Shared) (Q : Unit → Shared → Prop), Q () s1 → wpAny (model P w) A (g b) Q E s1)
    (e1 : ElemsOf (mixKind P w) es1.toList) (m1 : (es1.toList.map (·.2)).Perm us) (f1 : es1.size < scanBound) (f2 : t1.fits es1.size = true) (wk : Walkable w t1)
    (q : ∀ h', Heap.SameBut a s.heap h' → SetX P w h' a us → R (some true) { s with heap := h' }) :
    wpAny (model P w) A (do
        storeSet a es1 t1
        if (!dum && t1.tooFull) = true then do
            g (relayAll t1 es1 (SetTable.grown es1.size)).2.2
            storeSet a (relayAll t1 es1 (SetTable.grown es1.size)).1 (relayAll t1 es1 (SetTable.grown es1.size)).2.1
            pure (some true)
          else pure (some true)) R E s := by
  have big : ∀ {n : Nat}, n < scanBound → n ≤ sizeLine := fun z => fits_of_scanBound z
  refine wpAny_bind (wpAny_storeSet_of r.at_ r.dat ?_ (big f1))
  have r1 := r.stored e1 m1 f1 f2 wk
  have b1 : Heap.SameBut a s.heap (s.heap.update a (Obj.putSet es1 t1)) := Heap.SameBut.update _ _ _
  by_cases full : (!dum && t1.tooFull) = true
  · rw [if_pos full]
    have pm := relayAll_perm t1 es1 (SetTable.grown es1.size)
    have n2 : (relayAll t1 es1 (SetTable.grown es1.size)).1.size = es1.size := by rw [← Array.length_toList, pm.length_eq, Array.length_toList]
    have f3 : (relayAll t1 es1 (SetTable.grown es1.size)).1.size < scanBound := by rw [n2]; exact f1
    have wk3 : Walkable w (relayAll t1 es1 (SetTable.grown es1.size)).2.1 := ⟨relayAll_ris _ _ _, by rw [relayAll_led]; exact wk.2⟩
    refine wpAny_bind (hg _ _ _ (wpAny_bind (wpAny_storeSet_of r1.at_ rfl ?_ (big f3))))
    exact wpAny_pure (q _ (b1.trans (Heap.SameBut.update _ _ _)) ⟨_, _, _, _, r1.stored (e1.perm pm) ((pm.map _).trans m1) f3 (relayAll_fits _ _ _) wk3⟩)
  · rw [if_neg full]
    exact wpAny_pure (q _ b1 ⟨_, _, _, _, r1⟩)
/-- a member, new or not -/
theorem SetX.added {k : Key} {u : Value} {Q : Bool → Shared → Prop} (R : SetX P w s.heap a vs) (hk : (mixKind P w).is k u = true) (sc : u.scannable = true) (room : vs.length + 1 < scanBound)
    (old : (∃ v ∈ vs, (mixKind P w).is k v = true) → Q false s)
    (new : (∀ v ∈ vs, (mixKind P w).is k v = false) → ∀ h', Heap.SameBut a s.heap h' → SetX P w h' a (vs ++ [u]) → Q true { s with heap := h' }) :
    wpAny (model P w) A (setAddHashed a u ((mixKind P w).hash k)) Q E s := by
  obtain ⟨o, es, ep, t, r⟩ := R
  have sz := r.size
  unfold setAddHashed setAddHashedIn
  refine wpAny_holding (wpAny_bind (wpAny_setState_of r.at_ r.dat r.fit ?_))
  dsimp only
  rw [if_pos (byScan_of sc r.few r.els)]
  unfold setAddByScan
  refine wpAny_bind (wpAny_bind (wpAny_rule (wpAny_bind (wpAny_setScan_of hk r.at_ r.dat r.fit r.els ?_))))
  cases hf : List.findIdx? (fun e => (mixKind P w).is k e.2) es.toList with
  | some j =>
    obtain ⟨hj, pj, _⟩ := List.findIdx?_eq_some_iff_getElem.mp hf
    exact wpAny_pure (wpAny_pure (old ⟨_, r.mem.mem_iff.mp (List.mem_map_of_mem (List.getElem_mem hj)), pj⟩))
  | none =>
    have no : ∀ v ∈ vs, (mixKind P w).is k v = false := fun v hv => by
      obtain ⟨e, he, ev⟩ := List.mem_map.mp (r.mem.mem_iff.mpr hv)
      have z := List.findIdx?_eq_none_iff.mp hf e he
      rw [← ev]
      exact Bool.eq_false_iff.mpr fun y => by rw [y] at z; cases z
    have way : ∀ (b : Bool) (s1 : Shared) (Q1 : Unit → Shared → Prop), Q1 () s1 → wpAny (model P w) A (match b with | true => rule "set.scan.the-table-gave-way" | false => pure ()) Q1 E s1 := fun b s1 Q1 z => by
      cases b with
      | true => exact wpAny_rule z
      | false => exact wpAny_pure z
    have pm : (layNew t es ((mixKind P w).hash k) u).1.toList.Perm (es.toList ++ [((mixKind P w).hash k, u)]) := by
      have z := layNew_perm t es ((mixKind P w).hash k) u
      rw [Array.toList_push] at z
      exact z
    have f2 := layNew_fits t es ((mixKind P w).hash k) u
    have wk : Walkable w (layNew t es ((mixKind P w).hash k) u).2.1 := ⟨layNew_ris t es _ u r.wk.1, by rw [layNew_led]; exact r.wk.2⟩
    dsimp only
    generalize layNew t es ((mixKind P w).hash k) u = Z at pm f2 wk ⊢
    obtain ⟨es1, t1, dum, gave⟩ := Z
    dsimp only at pm f2 wk ⊢
    have e1 : ElemsOf (mixKind P w) es1.toList := (r.els.push hk sc).perm pm
    have m1 : (es1.toList.map (·.2)).Perm (vs ++ [u]) := (pm.map _).trans (by rw [List.map_append]; exact r.mem.append_right _)
    have f1 : es1.size < scanBound := by
      rw [← Array.length_toList, pm.length_eq, List.length_append, Array.length_toList, sz]
      exact room
    refine wpAny_bind (way _ _ _ ?_)
    split
    · refine wpAny_bind ?_
      rw [hashByValue_scannable 8 sc]
      refine wpAny_pure (r.close (us := vs ++ [u]) ?_ e1 m1 f1 ?_ ?_ fun h' b z => wpAny_pure (new no h' b z))
      · intro b s1 Q1 z; cases b <;> first | exact wpAny_pure z | exact wpAny_rule z
      · split <;> first | exact f2 | exact SetTable.fits_plain_off f2
      · split <;> exact wk
    · refine wpAny_bind (wpAny_pure ?_)
      refine r.close (us := vs ++ [u]) ?_ e1 m1 f1 f2 wk fun h' b z => wpAny_pure (new no h' b z)
      intro b s1 Q1 z; cases b <;> first | exact wpAny_pure z | exact wpAny_rule z
end
/-! ### as tracked things -/
theorem vals_has {P : Program} {w : World} {k : Key} : ∀ {ks : List Key} {vs : List Value}, Vals (ks.map kV) vs → ((∃ v ∈ vs, (mixKind P w).is k v = true) ↔ k ∈ ks)
  | [], _, .nil => ⟨fun ⟨v, hv, _⟩ => absurd hv List.not_mem_nil, fun z => absurd z List.not_mem_nil⟩
  | k' :: ks, u :: us, .cons r rs => by
    have ih := vals_has (P := P) (w := w) (k := k) rs
    constructor
    · rintro ⟨v, hv, e⟩
      rcases List.mem_cons.mp hv with z | z
      · subst z
        rw [(mixKind P w).inj v k k' e (kV_is r)]
        exact List.mem_cons_self
      · exact List.mem_cons_of_mem _ (ih.mp ⟨v, z, e⟩)
    · intro z
      rcases List.mem_cons.mp z with z | z
      · subst z
        exact ⟨u, List.mem_cons_self, kV_is r⟩
      · obtain ⟨v, hv, e⟩ := ih.mpr z
        exact ⟨v, List.mem_cons_of_mem _ hv, e⟩
def SetKO (P : Program) (w : World) (a : Addr) (ks : List Key) : HO := .ext fun h => ∃ vs, SetX P w h a vs ∧ Vals (ks.map kV) vs
theorem setKO_ok {P : Program} {w : World} {H : Hp} {h : Heap} {a : Addr} {ks : List Key} {vs : List Value} (R : SetX P w h a vs) (r : Vals (ks.map kV) vs) : ObjOk P w H h a (SetKO P w a ks) :=
  ⟨⟨vs, R, r⟩, let ⟨o, _, _, _, z⟩ := R; ⟨o, z.at_⟩, fun h1 h2 p k => let ⟨vs, q, r⟩ := p; ⟨vs, q.kept k, r⟩⟩
section
variable {X : Cx} {pins : List (Addr × Obj)} {σ : L2.St} {H : Hp} {s : Shared} {a : Addr} {ks : List Key} {E : Value → Shared → Prop}
theorem setKO_at (I : L2.Inv X pins σ H s) (ha : H a = some (SetKO X.prog X.w a ks)) : ∃ vs, SetX X.prog X.w s.heap a vs ∧ Vals (ks.map kV) vs := (I.hok a _ ha).1
def addK (ks : List Key) (k : Key) : List Key := if ks.any (fun j => decide (j = k)) = true then ks else ks ++ [k]
theorem addK_in {ks : List Key} {k : Key} (h : k ∈ ks) : addK ks k = ks := if_pos (List.any_eq_true.mpr ⟨k, h, decide_eq_true rfl⟩)
theorem addK_out {ks : List Key} {k : Key} (h : k ∉ ks) : addK ks k = ks ++ [k] := if_neg fun z => by
  obtain ⟨j, hj, e⟩ := List.any_eq_true.mp z
  exact h (of_decide_eq_true e ▸ hj)
theorem setKO_add {k : Key} {u : Value} {Q : Value → Shared → Prop} (I : L2.Inv X pins σ H s) (ha : H a = some (SetKO X.prog X.w a ks)) (r : RelV (kV k) u) (room : ks.length + 1 < scanBound)
    (q : ∀ s', L2.Inv X pins σ (upd H a (SetKO X.prog X.w a (addK ks k))) s' → Q .none s') : wpAny (model X.prog X.w) X.A (call (.builtin "set.add") [.ref a, u]) Q E s := by
  obtain ⟨vs, R, rv⟩ := setKO_at I ha
  have hl : vs.length = ks.length := by rw [← rv.length, List.length_map]
  refine wpAny_call_entry F.slot_set_add R.typeIs F.entry_set_add ?_ (F.args_set_add_2 _ _)
  unfold Builtin.«set.add» Builtin.Frozenset.oneOther
  simp only [List.isEmpty_nil, bind_assoc]
  unfold Builtin.Frozenset.addrOf setAdd
  refine wpAny_bind (wpAny_pure (wpAny_bind (wpAny_pure ?_)))
  refine wpAny_bind (wpAny_holding (wpAny_bind ((mixKind X.prog X.w).pyHash (kV_is r) ?_)))
  refine SetX.added (s := { s with toks := s.toks + 1 }) R (kV_is r) (key_scan r) (by rw [hl]; exact room) (fun z => ?_) fun z h' b R' => ?_
  · show wpAny _ _ (ret Value.none) _ _ _
    refine wpAny_pure ⟨_, rfl, q _ ?_⟩
    have e : addK ks k = ks := addK_in ((vals_has rv).mp z)
    rw [e]
    have he : ∃ u, s.heap.get? a = some u := let ⟨o, _, _, _, y⟩ := R; ⟨o, y.at_⟩
    exact I.write (e := a) (t' := s.toks + 1) (by rw [ha]; trivial) (.inl rfl) (fun b u _ hu => hu) he (setKO_ok R rv)
  · show wpAny _ _ (ret Value.none) _ _ _
    refine wpAny_pure ⟨_, rfl, q _ ?_⟩
    have e : addK ks k = ks ++ [k] := addK_out fun y => by
      obtain ⟨v, hv, ev⟩ := (vals_has (P := X.prog) (w := X.w) rv).mpr y
      rw [z v hv] at ev
      cases ev
    rw [e]
    have he : ∃ u, h'.get? a = some u := let ⟨o, _, _, _, y⟩ := R'; ⟨o, y.at_⟩
    exact I.write (e := a) (t' := s.toks + 1) (by rw [ha]; trivial) (.inl rfl) (fun c v hc hv => (b.2 c hc).trans hv) he (setKO_ok R' (by rw [List.map_append]; exact rv.append (.cons r .nil)))
/-- sorted(a set of texts) -/
def rSortX (P : Program) (w : World) : List V → Hp → VK → Prop := fun vs H Q => ∃ (a : Addr) (zs : List Str), vs = [.ref a] ∧ H a = some (SetKO P w a (zs.map .inr)) ∧ ∀ (ys : List Str) (p : Addr), ys.Perm zs → sortedS ys = true → H p = none → Q (.ref p) (upd H p (.lst (ys.map V.str)))
theorem strs_vals : ∀ {zs : List Str} {us : List Value}, Vals ((zs.map Sum.inr).map kV) us → StrsAre us zs
  | [], _, .nil => .nil
  | z :: zs, u :: us, .cons r rs => by
    obtain ⟨t, e⟩ : ∃ t, u = Value.str z t := r
    subst e
    exact .cons _ _ (strs_vals rs)
theorem strs_perm : ∀ {us vs : List Value}, us.Perm vs → ∀ {zs : List Str}, StrsAre vs zs → ∃ ys : List Str, ys.Perm zs ∧ StrsAre us ys := by
  intro us vs p
  induction p with
  | nil => exact fun {zs} h => ⟨zs, List.Perm.refl _, h⟩
  | cons x p ih =>
    intro zs h
    cases h with
    | cons y t h =>
      obtain ⟨ys, p1, h1⟩ := ih h
      exact ⟨_, p1.cons y, .cons y t h1⟩
  | swap x y l =>
    intro zs h
    cases h with
    | cons a t h =>
      cases h with
      | cons b t2 h => exact ⟨_, List.Perm.swap _ _ _, .cons _ _ (.cons _ _ h)⟩
  | trans p1 p2 ih1 ih2 =>
    intro zs h
    obtain ⟨ys, q1, h1⟩ := ih2 h
    obtain ⟨ws, q2, h2⟩ := ih1 h1
    exact ⟨ws, q2.trans q1, h2⟩
theorem cr_sortX (hc : X.calm = true) : CallR X (.builtin "sorted") (rSortX X.prog X.w) := by
  intro pins s σ H vs us Q I r q
  obtain ⟨a, zs, rfl, ha, q⟩ := q
  obtain ⟨ws, ⟨o, es, ep, t, R⟩, rw'⟩ := setKO_at I ha
  rw [Vals.ref1 r]
  refine Calls.call_function_entry kind_sorted plain_sorted entry_sorted (args_sorted1 _) ?_
  unfold Builtin.«sorted»
  refine wpAny_bind (m := checkCount "sorted" 1 1 _) (wpAny_pure ?_)
  refine wpAny_bind (collect_set (A := X.A.in1) (I.ok.hd hc) ⟨o, R.at_, R.ex.1, R.dat⟩ R.fit R.few R.wk.1 R.wk.2 fun s1 out k1 hz g1 o1 pm => ?_)
  obtain ⟨ys0, p0, hS⟩ := strs_perm (pm.trans R.mem) (strs_vals rw')
  have hlen : out.length ≤ sizeLine := by
    rw [(pm.trans R.mem).length_eq, ← R.size]
    exact fits_of_scanBound R.few
  have J : L2.Inv X pins σ H s1 := by
    have e : s1 = { s with heap := s1.heap, gens := s1.gens, drawn := s1.drawn, toks := s1.toks } := by
      cases s1
      cases s
      cases o1
      rfl
    rw [e]
    exact I.call (ch := []) (Un.kept k1) (I.hok.kept k1) (by rw [g1]; exact I.bare) fun _ z => nomatch z
  refine wpAny_bind (wpAny_newList ?_ hlen)
  have hoL : (s1.heap.push (seqObj "list" out.toArray 0)).get? s1.heap.objs.size = some (seqObj "list" out.toArray 0) := Heap.get?_push_size _ rfl
  refine wpAny_bind (wpAny_holding (wpAny_call_entry slot_list_sort ⟨_, hoL, rfl⟩ entry_list_sort
    (list_sort_treeKAny strKind_oneLt (s := { s1 with heap := s1.heap.push (seqObj "list" out.toArray 0) }) hoL hS.keysOf (fun v₁ v₂ rest e => keyKind_strs (by rw [← e]; exact hS)) hlen fun st' hp hs => ⟨_, rfl, ?_⟩)
    (args_list_sort _)))
  obtain ⟨ys, e1, e2, e3⟩ := sorted_out_str hS hp hs
  obtain ⟨c, hat⟩ := sortedHeap_at (vs := out) (out := (arrOf st').map (·.2)) hoL
  have hl2 : (ys.map V.str).length ≤ sizeLine := by
    rw [List.length_map, e2.length_eq, ← hS.length]
    exact hlen
  refine wpAny_pure ⟨_, rfl, .ref s1.heap.objs.size, upd H s1.heap.objs.size (.lst (ys.map V.str)), J.laid (t' := s1.toks) (fun b u e => ?_) (Nat.le_refl _)
    (show ObjOk X.prog X.w _ _ _ (.lst (ys.map V.str)) from ⟨hl2, ((arrOf st').map (·.2)).toList, c, vals_of_strs e1, by rw [Array.toArray_toList]; exact hat⟩), rfl, q ys _ (e2.trans p0) e3 (J.hok.fresh (Nat.le_refl _))⟩
  have hb : b < s1.heap.objs.size := Heap.lt_size e
  rw [sortedHeap_old (Nat.ne_of_lt hb) (by rw [size_push']; exact Nat.lt_succ_of_lt hb)]
  exact Heap.get?_push_of_some _ e
/-- sorted(a list of texts), however long -/
def rSortA (K : PySem.W.Frag) : List V → Hp → VK → Prop := fun vs H Q => ∃ (a : Addr) (zs : List Str), vs = [.ref a] ∧ SqL K H a (zs.map V.str) ∧ ∀ (ys : List Str) (p : Addr), ys.Perm zs → sortedS ys = true → H p = none → Q (.ref p) (upd H p (.lst (ys.map V.str)))
theorem cr_sortA : CallR X (.builtin "sorted") (rSortA X.K) := by
  intro pins s σ H vs us Q I r q
  obtain ⟨a, zs, rfl, hs, q⟩ := q
  obtain ⟨its, rv, hl, hz⟩ := I.list hs
  rw [Vals.ref1 r]
  have n1 : its.length = zs.length := by rw [← rv.length, List.length_map]
  have n2 : its.length ≤ sizeLine := by
    first
      | exact hz
      | (rw [← rv.length]; exact hz)
  refine sorted_strsAny hl.isList rv.strs n2 fun out ys e1 e2 e3 => ?_
  obtain ⟨c, at_⟩ := sortedAll_at s.heap its out
  have n3 : (ys.map V.str).length ≤ sizeLine := by
    rw [List.length_map, e2.length_eq, ← n1]
    exact n2
  refine ⟨.ref _, upd H (s.heap.objs.size + 1) (.lst (ys.map V.str)), I.laid (t' := s.toks) (fun b u e => sortedAll_old e) (Nat.le_succ _) ⟨n3, out.toList, c, vals_of_strs e1, at_⟩, rfl, ?_⟩
  exact q ys _ e2 e3 (I.hok.fresh (Nat.le_succ _))
/-- len(a set) -/
def rLenX (P : Program) (w : World) : List V → Hp → VK → Prop := fun vs H Q => ∃ (a : Addr) (ks : List Key), vs = [.ref a] ∧ H a = some (SetKO P w a ks) ∧ Q (.int ks.length) H
theorem cr_lenX : CallR X (.builtin "len") (rLenX X.prog X.w) := by
  intro pins s σ H vs us Q I r q
  obtain ⟨a, ks, rfl, ha, q⟩ := q
  obtain ⟨ws, ⟨o, es, ep, t, R⟩, rw'⟩ := setKO_at I ha
  rw [Vals.ref1 r]
  have hs : es.size = ks.length := by rw [R.size, ← rw'.length, List.length_map]
  refine call_len_set R.at_ R.ex R.dat R.fit ?_ ⟨.int ks.length, H, I.tok _, ⟨s.toks + 1, by rw [hs]⟩, q⟩
  have z := fits_of_scanBound R.few
  rw [sizeLine_eq] at z
  omega
end
end TR
set_option Elab.async false
set_option linter.all false
set_option maxRecDepth 100000
set_option maxHeartbeats 2000000
/-! TR14: isinstance, methods of lists and texts, dicts written out, sorted. -/
namespace TR
open PySem PySem.Spec L2
open PyProof.Rows hiding St

/-! ### isinstance, built-in types -/
inductive Ty where
  | non | bool | int | str | tuple | list | dict
  deriving DecidableEq
def Ty.name : Ty → String
  | .non => "NoneType"
  | .bool => "bool"
  | .int => "int"
  | .str => "str"
  | .tuple => "tuple"
  | .list => "list"
  | .dict => "dict"
def tyOf (S : Sta) : T → Option Ty
  | .non => some .non
  | .bl _ => some .bool
  | .int _ => some .int
  | .str _ => some .str
  | .tup _ => some .tuple
  | .frz _ => some .list
  | .obj i => match S[i]? with
    | some (.lst _) => some .list
    | some (.dct _) => some .dict
    | _ => none
def isiB (a b : Ty) : Bool := decide (a = b) || (decide (a = .bool) && decide (b = .int))
theorem kit_isi : ∀ a b : Ty, kitB a.name b.name = some (isiB a b) := by
  intro a b
  cases a <;> cases b <;> decide +kernel
theorem tyOf_rel {K : PySem.W.Frag} {CA : ClsAt} {H : Hp} {m : List Addr} {S : Sta} {x : T} {v : V} {t : Ty} (rs : RelS K CA H m S) (r : RelT K H m x v) (e : tyOf S x = some t) : TyX K H v (.type t.name) := by
  cases r with
  | non => cases e; exact .base .non
  | bl b => cases e; exact .base (.bl b)
  | int i => cases e; exact .base (.int i)
  | str z => cases e; exact .base (.str _)
  | tup hs _ =>
    cases e
    rcases hs with (h | ⟨o, h⟩) | ⟨o, its, n, hk, hc, _⟩
    · exact .base (.tup h)
    · exact .fTuple h
    · exact .kTuple hk hc
  | frz hs _ =>
    cases e
    rcases hs with ⟨o, h⟩ | ⟨o, its, n, hk, hc, _⟩
    · exact .base (.frz h)
    · exact .kList hk hc
  | obj hm =>
    simp only [tyOf] at e
    split at e
    · rename_i ec
      cases e
      obtain ⟨a, e3, vs, e4, rb⟩ := rs.get ec
      rw [hm] at e3; cases e3
      exact .base (.lst e4)
    · rename_i ec
      cases e
      obtain ⟨a, e3, vs, e4, rb⟩ := rs.get ec
      rw [hm] at e3; cases e3
      exact .base (.dK e4)
    · cases e
def wIsi (t : Ty) (w : Wp) : Wp := fun ρ S Q => w ρ S fun x S1 => ∃ a, tyOf S1 x = some a ∧ Q (.bl (isiB a t)) S1
theorem mono_isi {t : Ty} {w : Wp} (a : MonoW w) : MonoW (wIsi t w) := fun _ _ _ _ h q => a _ _ _ _ (fun _ _ q => let ⟨b, e, q⟩ := q; ⟨b, e, h _ _ q⟩) q
section
variable {X : Cx} {CA : ClsAt} {pos p p2 : Pos} {e : Expr} {w : Wp}
theorem px_isi {y : Str} (t : Ty) (hy : bootBuiltins y = some (.type t.name)) (hn : y ≠ "__name__") (hdb : (y == ("__debug__" : Str)) = false) (hg : Gl X "isinstance") (hm : X.mg "isinstance" = none) (hgy : Gl X y) (hmy : X.mg y = none) (mw : MonoW w) (he : PX X CA e w) (hst : notStar e = true) :
    PX X CA (.Call (.Name "isinstance" p) [e, .Name y p2] [] pos) (wIsi t w) := by
  have ht : PE X (.Name y p2) (tC (.ty t.name)) := pe_bltn hgy hmy hy rfl hn hdb
  have ha := pa_cons he (pa_cons ht pa_nil (star_cons rfl)) (star_cons (es := [Expr.Name y p2]) hst)
  refine PE.imp (pe_callB call_isi hg hm PyProof.Rows.boot_isinstance ha (by decide) (by decide) (star_cons hst) (back_any (es := [Expr.Name y p2]) rfl)) fun σ H Q q => ?_
  obtain ⟨m, ρ, S, rs, re, q⟩ := q
  refine lift_of mw rs re q fun x S1 m1 H1 v k1 rs1 re1 rx q => ?_
  obtain ⟨a, ea, q⟩ := q
  exact ⟨v, .ty t.name, .type a.name, .type t.name, isiB a t, rfl, .ty _, tyOf_rel rs1 rx ea, kit_ty (kit_isi a t), q m1 H1 _ k1 rs1 (.bl _)⟩
end

/-! ### methods of builtin types -/
abbrev Gm := T → List T → Sta → (T → Sta → Prop) → Prop
def MonoM (g : Gm) : Prop := ∀ x ts S Q Q', (∀ t S', Q t S' → Q' t S') → g x ts S Q → g x ts S Q'
def liftM (K : PySem.W.Frag) (CA : ClsAt) (g : Gm) : V → List V → Hp → VK → Prop := fun v vs H Q => ∃ m S x ts, RelS K CA H m S ∧ RelT K H m x v ∧ RelTs K H m ts vs ∧ g x ts S (After K CA m H Q)
abbrev MtX (X : Cx) (CA : ClsAt) (id : String) (g : Gm) : Prop := MtR X id (liftM X.K CA g)
/-- a method stands on a list, a dict, a text -/
inductive Mty where
  | list | dict | str
  deriving DecidableEq
def Mty.name : Mty → String
  | .list => "list"
  | .dict => "dict"
  | .str => "str"
def mtyOf (S : Sta) : T → Option Mty
  | .str _ => some .str
  | .frz _ => some .list
  | .obj i => match S[i]? with
    | some (.lst _) => some .list
    | some (.dct _) => some .dict
    | _ => none
  | _ => none
theorem mtyOf_rel {K : PySem.W.Frag} {CA : ClsAt} {H : Hp} {m : List Addr} {S : Sta} {x : T} {v : V} {t : Mty} (rs : RelS K CA H m S) (r : RelT K H m x v) (e : mtyOf S x = some t) : tyV K t.name v H := by
  cases r with
  | str z => cases e; exact rfl
  | frz hs _ => cases e; exact .inl ⟨rfl, _, hs.l⟩
  | obj hm =>
    simp only [mtyOf] at e
    split at e
    · rename_i ec
      cases e
      obtain ⟨a, e3, vs, e4, rb⟩ := rs.get ec
      rw [hm] at e3; cases e3
      exact .inl ⟨rfl, _, SqL.of e4⟩
    · rename_i ec
      cases e
      obtain ⟨a, e3, vs, e4, rb⟩ := rs.get ec
      rw [hm] at e3; cases e3
      exact .inr (.inr (.inl ⟨rfl, .inl ⟨_, e4⟩⟩))
    · cases e
  | _ => cases e
def wBm (t : Mty) (g : Gm) (wo : Wp) (wa : Wa) : Wp := fun ρ S Q => wo ρ S fun x S1 => mtyOf S1 x = some t ∧ wa ρ S1 fun ts S2 => g x ts S2 Q
theorem mono_bm {t : Mty} {g : Gm} {wo : Wp} {wa : Wa} (mg : MonoM g) (o : MonoW wo) (a : MonoA wa) : MonoW (wBm t g wo wa) := fun _ _ _ _ h q => o _ _ _ _ (fun _ _ q => ⟨q.1, a _ _ _ _ (fun _ _ q => mg _ _ _ _ _ h q) q.2⟩) q
section
variable {X : Cx} {CA : ClsAt} {pos apos : Pos} {e o : Expr} {es : List Expr} {wo : Wp} {wa : Wa} {g : Gm} {name : Str} {id : String}
theorem px_bm (t : Mty) (pa : PlainAttrs t.name) (slot : Slot t.name name id) (hty : typeOf (.builtin id) = pure (.type "method_descriptor")) (hm : MtX X CA id g) (mg : MonoM g) (mo : MonoW wo) (ma : MonoA wa) (ho : PX X CA o wo) (ha : PXA X CA (e :: es) wa) (hf : methOk o apos pos (e :: es) [] = true) :
    PX X CA (.Call (.Attribute o name apos) (e :: es) [] pos) (wBm t g wo wa) := by
  have hf' := hf
  unfold methOk at hf
  simp only [Bool.and_eq_true, decide_eq_true_eq] at hf
  obtain ⟨⟨⟨⟨h1, hst⟩, _⟩, h4⟩, h5⟩ := hf
  have hst' := hst
  rw [List.all_cons, Bool.and_eq_true] at hst'
  have few : ((backTo pos (starEach (e :: es) X.env)).all (fun x => !x.1) && (backToKw pos (keywordEach [] X.env)).all (fun x => x.1.isSome)
      && decide ((e :: es).length + ([] : List Keyword).length + (if ([] : List Keyword).isEmpty then 0 else 1) < 30)) = true := by
    rw [back_all hst, Bool.true_and, Bool.and_eq_true]
    refine ⟨rfl, decide_eq_true ?_⟩
    simp only [List.length_nil, List.isEmpty_nil, if_true] at h4 ⊢
    omega
  refine PE.imp (pe_bm pa slot hty hm ho ha (plainBase_ok h1 _ _ _) few h5 (star_cons hst'.1) (back_any hst'.2)) fun σ H Q q => ?_
  obtain ⟨m, ρ, S, rs, re, q⟩ := q
  refine lift_of mo rs re q fun x S1 m1 H1 v k1 rs1 re1 rx q => ?_
  obtain ⟨ht, q⟩ := q
  refine ⟨mtyOf_rel rs1 rx ht, ?_⟩
  refine liftA_of ma rs1 re1 q fun ts S2 m2 H2 vs k2 rs2 re2 rt q => ?_
  exact ⟨m2, S2, x, ts, rs2, rx.mono k2, rt, mg _ _ _ _ _ (fun t S3 q m3 H3 v3 k3 => q m3 H3 v3 ((k1.trans k2).trans k3)) q⟩
theorem px_bm0 (t : Mty) (pa : PlainAttrs t.name) (slot : Slot t.name name id) (hty : typeOf (.builtin id) = pure (.type "method_descriptor")) (hm : MtX X CA id g) (mg : MonoM g) (mo : MonoW wo) (ho : PX X CA o wo) (hf : methOk o apos pos [] [] = true) :
    PX X CA (.Call (.Attribute o name apos) [] [] pos) (wBm t g wo wNil) := by
  unfold methOk at hf
  simp only [Bool.and_eq_true, decide_eq_true_eq] at hf
  obtain ⟨⟨⟨⟨h1, _⟩, _⟩, h4⟩, h5⟩ := hf
  refine PE.imp (pe_bm0 pa slot hty hm ho (plainBase_ok h1 _ _ _) h5) fun σ H Q q => ?_
  obtain ⟨m, ρ, S, rs, re, q⟩ := q
  refine lift_of mo rs re q fun x S1 m1 H1 v k1 rs1 re1 rx q => ?_
  obtain ⟨ht, q⟩ := q
  exact ⟨mtyOf_rel rs1 rx ht, m1, S1, x, [], rs1, rx, .nil, mg _ _ _ _ _ (fun t S3 q m3 H3 v3 k3 => q m3 H3 v3 (k1.trans k3)) q⟩
/-- the cell of an object -/
theorem lst_at {K : PySem.W.Frag} {CA : ClsAt} {H : Hp} {m : List Addr} {S : Sta} {j : Nat} {xs : List T} {v : V} (rs : RelS K CA H m S) (r : RelT K H m (.obj j) v) (e : S[j]? = some (.lst xs)) : ∃ a vs, v = .ref a ∧ m[j]? = some a ∧ H a = some (.lst vs) ∧ RelTs K H m xs vs := by
  cases r with
  | obj hm =>
    obtain ⟨a, e3, vs, e4, rb⟩ := rs.get e
    rw [hm] at e3; cases e3
    exact ⟨_, vs, rfl, hm, e4, rb⟩
theorem dct_at {K : PySem.W.Frag} {CA : ClsAt} {H : Hp} {m : List Addr} {S : Sta} {j : Nat} {xs : List (T × T)} {v : V} (rs : RelS K CA H m S) (r : RelT K H m (.obj j) v) (e : S[j]? = some (.dct xs)) : ∃ a vs, v = .ref a ∧ m[j]? = some a ∧ H a = some (.dK vs) ∧ RelD K H m xs vs := by
  cases r with
  | obj hm =>
    obtain ⟨a, e3, vs, e4, rb⟩ := rs.get e
    rw [hm] at e3; cases e3
    exact ⟨_, vs, rfl, hm, e4, rb⟩
def gAppend : Gm := fun x ts S Q => ∃ j xs y, x = .obj j ∧ ts = [y] ∧ S[j]? = some (.lst xs) ∧ xs.length < sizeLine ∧ Q .non (S.set j (.lst (xs ++ [y])))
theorem mono_append : MonoM gAppend := fun _ _ _ _ _ h q => by
  obtain ⟨j, xs, y, h1, h2, h3, h4, q⟩ := q
  exact ⟨j, xs, y, h1, h2, h3, h4, h _ _ q⟩
theorem mx_append : MtX X CA "list.append" gAppend := by
  intro pins s σ H x xs v us Q I rx rv h
  obtain ⟨m, S, t, ts, rs, r1, r2, j, zs, y, rfl, rfl, ec, hz, q⟩ := h
  obtain ⟨a, vs, rfl, hm, e4, rb⟩ := lst_at rs r1 ec
  obtain ⟨vy, rfl, ry⟩ := relTs1 r2
  obtain ⟨k1, r1'⟩ := putLst rs hm e4 (rb.append (.cons ry .nil))
  exact mt_append pins s σ H _ _ v us Q I rx rv ⟨a, vs, vy, rfl, rfl, e4, by rw [← rb.length]; exact hz, q m _ _ k1 r1' .non⟩
def strsOf : List T → Option (List (List Nat))
  | [] => some []
  | .str x :: ts => (strsOf ts).map (x :: ·)
  | _ => none
theorem strsOf_rel {K : PySem.W.Frag} {H : Hp} {m : List Addr} : ∀ {ts : List T} {vs : List V} {zs : List (List Nat)}, RelTs K H m ts vs → strsOf ts = some zs → vs = (zs.map mkS).map V.str
  | _, _, _, .nil, e => by cases e; rfl
  | _, _, _, .cons (t := t) (ts := ts) r rr, e => by
    cases r <;> simp only [strsOf] at e <;> first | (cases e; done) | skip
    cases e2 : strsOf ts with
    | none => rw [e2] at e; cases e
    | some b2 =>
      rw [e2] at e
      cases e
      rw [strsOf_rel rr e2]
      rfl
def joinL (a : List Nat) (zs : List (List Nat)) : List Nat := (zs.drop 1).foldl (fun acc p => acc ++ a ++ p) (zs.headD [])
def gJoin : Gm := fun x ts S Q => ∃ a y xs zs, x = .str a ∧ ts = [y] ∧ seqOf S y = some xs ∧ strsOf xs = some zs ∧ (zs.map (·.length)).sum + zs.length * a.length ≤ 16777216 ∧ Q (.str (joinL a zs)) S
theorem mono_join : MonoM gJoin := fun _ _ _ _ _ h q => by
  obtain ⟨a, y, xs, zs, h1, h2, h3, h4, h5, q⟩ := q
  exact ⟨a, y, xs, zs, h1, h2, h3, h4, h5, h _ _ q⟩
theorem joinL_go (a : List Nat) : ∀ (zs : List (List Nat)) (x : List Nat), (zs.map mkS).foldl (fun acc p => acc ++ (mkS a).cps ++ p.cps) x.toArray = (zs.foldl (fun acc p => acc ++ a ++ p) x).toArray
  | [], x => rfl
  | z :: zs, x => by
    rw [List.map_cons, List.foldl_cons, List.foldl_cons, ← joinL_go a zs]
    congr 1
    show x.toArray ++ a.toArray ++ z.toArray = _
    simp
theorem joinL_glued (a : List Nat) (zs : List (List Nat)) : (Txt.join (mkS a) (zs.map mkS)) = mkS (joinL a zs) := by
  unfold Txt.join Builtin.Str.glued joinL
  show Str.mk _ = Str.mk _
  congr 1
  cases zs with
  | nil => rfl
  | cons z zs => exact joinL_go a zs z
theorem mx_join : MtX X CA "str.join" gJoin := by
  intro pins s σ H x xs v us Q I rx rv h
  obtain ⟨m, S, t, ts, rs, r1, r2, a, y, zs, ys, rfl, rfl, e1, e2, hz, q⟩ := h
  cases r1
  obtain ⟨vy, rfl, ry⟩ := relTs1 r2
  obtain ⟨p, vs, rfl, hs, rr⟩ := seqOf_rel rs ry e1
  have e := strsOf_rel rr e2
  subst e
  refine mt_join pins s σ H _ _ v us Q I rx rv ⟨mkS a, p, ys.map mkS, rfl, rfl, hs.symm, ?_, ?_⟩
  · rw [List.map_map, List.length_map, mkS_len]
    refine Nat.le_trans (Nat.le_of_eq ?_) hz
    rw [show List.map ((fun x : Str => x.length) ∘ mkS) ys = List.map (fun x => x.length) ys from List.map_congr_left fun z _ => mkS_len z]
  · rw [joinL_glued]
    exact q m H _ .rfl' rs (.str _)
end

/-! ### dicts written out; dict of pairs -/
def dmake (ps : List (T × T)) : List (T × T) := ps.foldl (fun acc p => dput acc p.1 p.2) []
/-- a key, then its value, .. -/
def pairUp : List T → Option (List (T × T))
  | [] => some []
  | [_] => none
  | k :: v :: r => bif isKey k then (pairUp r).map ((k, v) :: ·) else none
/-- (key, value), .. -/
def pairsIn : List T → Option (List (T × T))
  | [] => some []
  | t :: r => match t with
    | .tup [k, v] => bif isKey k then (pairsIn r).map ((k, v) :: ·) else none
    | _ => none
theorem dmake_rel {K : PySem.W.Frag} {H : Hp} {m : List Addr} {ps : List (T × T)} {l : List (Key × V)} (r : RelD K H m ps l) : ∀ {acc : List (T × T)} {al : List (Key × V)}, RelD K H m acc al → RelD K H m (ps.foldl (fun acc p => dput acc p.1 p.2) acc) (mergeK al l) := by
  induction r with
  | nil => exact fun r => r
  | cons h _ ih => exact fun r => ih (dput_rel r h.1 h.2)
def gDict : Gn := fun ts S Q => match ts with
  | [x] => ∃ xs ps, lstOf S x = some xs ∧ pairsIn xs = some ps ∧ Q (.obj S.length) (S ++ [.dct (dmake ps)])
  | _ => False
theorem mono_gDict : MonoN gDict := fun ts S Q Q' h q => by
  unfold gDict at q ⊢
  split <;> simp only at q
  obtain ⟨xs, ps, h1, h2, q⟩ := q
  exact ⟨xs, ps, h1, h2, h _ _ q⟩
theorem pairsIn_rel {K : PySem.W.Frag} {H : Hp} {m : List Addr} : ∀ {ts : List T} {vs : List V} {ps : List (T × T)}, RelTs K H m ts vs → pairsIn ts = some ps →
    ∃ (as : List Addr) (l : List (Key × V)), vs = as.map V.ref ∧ Paired (fun p (kv : Key × V) => SqT K H p [kV kv.1, kv.2]) as l ∧ RelD K H m ps l
  | _, _, _, .nil, e => by cases e; exact ⟨[], [], rfl, .nil, .nil⟩
  | _, _, _, .cons (t := t) (ts := ts) r rr, e => by
    simp only [pairsIn] at e
    split at e
    · rename_i k v
      cases hk : isKey k with
      | false => rw [hk] at e; cases e
      | true =>
        rw [hk] at e
        cases e2 : pairsIn ts with
        | none => rw [e2] at e; cases e
        | some b2 =>
          rw [e2] at e
          cases e
          obtain ⟨as, l, h1, h2, h3⟩ := pairsIn_rel rr e2
          obtain ⟨kk, hkk⟩ := isKey_of hk
          cases r with
          | tup hs rt =>
            obtain ⟨v1, v2, rfl, r1, r2⟩ := relTs2 rt
            have ev := keyOf_v hkk r1
            subst ev
            subst h1
            exact ⟨_ :: as, (kk, v2) :: l, rfl, .cons hs h2, .cons ⟨hkk, r2⟩ h3⟩
    · cases e
theorem push_dct {K : PySem.W.Frag} {CA : ClsAt} {H : Hp} {m : List Addr} {S : Sta} {p : Addr} {ts : List (T × T)} {vs : List (Key × V)} (rs : RelS K CA H m S) (hp : H p = none) (r : RelD K H m ts vs) : RelS K CA (upd H p (.dK vs)) (m ++ [p]) (S ++ [.dct ts]) :=
  rs.push hp ⟨vs, upd_same, Paired.imp (fun _ _ q => ⟨q.1, q.2.mono (Step.push hp)⟩) r⟩
theorem bi_dict {X : Cx} {CA : ClsAt} (hc : X.calm = true) : BiR X CA (.type "dict") gDict := by
  intro pins s σ H xs us Q I r h
  obtain ⟨m, S, ts, rs, rt, h⟩ := h
  unfold gDict at h
  split at h
  · obtain ⟨v, rfl, r1⟩ := relTs1 rt
    obtain ⟨zs, ps, e1, e2, q⟩ := h
    obtain ⟨a, vs, rfl, hs, rr⟩ := lstOf_rel rs r1 e1
    obtain ⟨as, l, rfl, h2, h3⟩ := pairsIn_rel rr e2
    exact call_dictP hc pins s σ H _ us Q I r ⟨a, as, l, rfl, hs, h2, fun p hp => q (m ++ [p]) _ _ (Step.push hp) (push_dct rs hp (dmake_rel h3 .nil)) (obj_new rs.len)⟩
  · exact h.elim
/-- sorted(a dict with less than 64 keys, all of them texts) -/
def gSorted : Gn := fun ts S Q => match ts with
  | [.obj j] => (match S[j]? with
    | some (.dct kvs) => ∃ zs, strsOf (kvs.map (·.1)) = some zs ∧ zs.length < 64 ∧ ∀ ys : List (List Nat), ys.Perm zs → sortedS (ys.map mkS) = true → Q (.obj S.length) (S ++ [.lst (ys.map .str)])
    | some (.lst xs) => ∃ zs, strsOf xs = some zs ∧ ∀ ys : List (List Nat), ys.Perm zs → sortedS (ys.map mkS) = true → Q (.obj S.length) (S ++ [.lst (ys.map .str)])
    | _ => False)
  | _ => False
theorem mono_gSorted : MonoN gSorted := fun ts S Q Q' h q => by
  unfold gSorted at q ⊢
  split <;> simp only at q
  split <;> rename_i e <;> simp only [e] at q
  · obtain ⟨zs, h1, h2, q⟩ := q
    exact ⟨zs, h1, h2, fun ys a b => h _ _ (q ys a b)⟩
  · obtain ⟨zs, h1, q⟩ := q
    exact ⟨zs, h1, fun ys a b => h _ _ (q ys a b)⟩
theorem relTs_strs {K : PySem.W.Frag} {H : Hp} {m : List Addr} : ∀ ys : List (List Nat), RelTs K H m (ys.map .str) ((ys.map mkS).map V.str)
  | [] => .nil
  | y :: ys => .cons (.str y) (relTs_strs ys)
theorem perm_mkS {ys : List Str} {zs : List (List Nat)} (h : ys.Perm (zs.map mkS)) : ∃ ws : List (List Nat), ys = ws.map mkS ∧ ws.Perm zs := by
  refine ⟨ys.map fun y => y.cps.toList, ?_, ?_⟩
  · rw [List.map_map]
    have : (mkS ∘ fun y : Str => y.cps.toList) = id := funext fun y => mkS_toList y
    rw [this, List.map_id]
  · have := h.map fun y : Str => y.cps.toList
    rw [List.map_map] at this
    have e : ((fun y : Str => y.cps.toList) ∘ mkS) = id := funext fun y => mkS_cps y
    rw [e, List.map_id] at this
    exact this
theorem bi_sorted {X : Cx} {CA : ClsAt} (hc : X.calm = true) : BiR X CA (.builtin "sorted") gSorted := by
  intro pins s σ H xs us Q I r h
  obtain ⟨m, S, ts, rs, rt, h⟩ := h
  unfold gSorted at h
  split at h
  · obtain ⟨v, rfl, r1⟩ := relTs1 rt
    split at h
    · rename_i kvs ec
      obtain ⟨zs, e1, hl, q⟩ := h
      obtain ⟨a, l, rfl, hm, e4, rd⟩ := dct_at rs r1 ec
      have ek := strsOf_rel (relD_keys rd) e1
      have ek2 : l.map (·.1) = (zs.map mkS).map Sum.inr := by
        clear rd e4 r q e1
        revert ek
        generalize zs.map mkS = ws
        induction l generalizing ws with
        | nil => intro ek; cases ws with
          | nil => rfl
          | cons _ _ => cases ek
        | cons p l ih =>
          intro ek
          cases ws with
          | nil => cases ek
          | cons w ws =>
            rw [List.map_cons, List.map_cons] at ek
            injection ek with h1 h2
            rw [List.map_cons, List.map_cons, ih ws h2]
            congr 1
            cases hp : p.1 with
            | inl i => rw [hp] at h1; cases h1
            | inr z => rw [hp] at h1; cases h1; rfl
      refine call_sortedD hc pins s σ H _ us Q I r ⟨a, l, zs.map mkS, rfl, .inl e4, ek2, by rw [List.length_map]; exact hl, fun ys p h1 h2 hp => ?_⟩
      obtain ⟨ws, rfl, hw⟩ := perm_mkS h1
      exact q ws hw h2 (m ++ [p]) _ _ (Step.push hp) (push_lst rs hp (relTs_strs ws)) (obj_new rs.len)
    · rename_i xs ec
      obtain ⟨zs, e1, q⟩ := h
      cases r1 with
      | obj hm =>
        obtain ⟨a, e3, vs, e4, rb⟩ := rs.get ec
        rw [hm] at e3; cases e3
        refine cr_sortA pins s σ H _ us Q I r ⟨_, zs.map mkS, rfl, by rw [← strsOf_rel rb e1]; exact SqL.of e4, fun ys p h1 h2 hp => ?_⟩
        obtain ⟨ws, rfl, hw⟩ := perm_mkS h1
        exact q ws hw h2 (m ++ [p]) _ _ (Step.push hp) (push_lst rs hp (relTs_strs ws)) (obj_new rs.len)
    · exact h.elim
  · exact h.elim
/-- {k: v, ..}: wa the keys and values, in turn -/
def wDisp (wa : Wa) : Wp := fun ρ S Q => wa ρ S fun ts S1 => ∃ ps, pairUp ts = some ps ∧ ps.length ≤ 15 ∧ Q (.obj S1.length) (S1 ++ [.dct (dmake ps)])
theorem mono_disp {wa : Wa} (a : MonoA wa) : MonoW (wDisp wa) := fun _ _ _ _ h q => a _ _ _ _ (fun _ _ q => let ⟨ps, h1, h2, q⟩ := q; ⟨ps, h1, h2, h _ _ q⟩) q
/-- the transformers of a display's pairs, with D outside of the cells -/
structure DispOk (X : Cx) (CA : ClsAt) (pos : Pos) (keys : List (Option Expr)) (values : List Expr) (wa : Wa) : Prop where
  mono : MonoA wa
  ex : ∃ trs, PPs X pos keys values trs ∧ keys.all (·.isSome) = true ∧ keys.length = values.length ∧ ∀ (m : List Addr) (ρ : Ev) (S : Sta) (σ : L2.St) (H : Hp) (Q : List (V × V) → Hp → Prop), RelS X.K CA H m S → RelE X.K H m ρ σ →
    (wa ρ S fun ts S' => ∃ ps, pairUp ts = some ps ∧ ∀ m' H' (l : List (Key × V)), Step m H m' H' → RelS X.K CA H' m' S' → RelD X.K H' m' ps l → Q (l.map fun kv => (kV kv.1, kv.2)) H') → tPairs trs σ H Q
theorem disp_nil {X : Cx} {CA : ClsAt} {pos : Pos} : DispOk X CA pos [] [] wNil := ⟨mono_nil, [], pps_nil, rfl, rfl, fun m ρ S σ H Q rs re q => by
  obtain ⟨ps, e, q⟩ := q
  cases e
  exact q m H [] .rfl' rs .nil⟩
theorem disp_cons {X : Cx} {CA : ClsAt} {pos : Pos} {k v : Expr} {keys : List (Option Expr)} {values : List Expr} {wk wv : Wp} {wa : Wa} (mk : MonoW wk) (mv : MonoW wv) (hk : PX X CA k wk) (hv : PX X CA v wv) (d : DispOk X CA pos keys values wa) :
    DispOk X CA pos (some k :: keys) (v :: values) (wCons wk (wCons wv wa)) := by
  obtain ⟨ma, trs, hp, h1, h2, h3⟩ := d
  refine ⟨mono_cons mk (mono_cons mv ma), _, pps_cons hk hv hp, by rw [List.all_cons, h1]; rfl, by rw [List.length_cons, List.length_cons, h2], fun m ρ S σ H Q rs re q => ?_⟩
  refine lift_of mk rs re q fun x S1 m1 H1 v1 k1 rs1 re1 rx q => ?_
  refine lift_of mv rs1 re1 q fun y S2 m2 H2 v2 k2 rs2 re2 ry q => ?_
  refine h3 m2 ρ S2 σ H2 _ rs2 re2 (ma _ _ _ _ (fun ts S3 q => ?_) q)
  obtain ⟨ps, e, q⟩ := q
  simp only [pairUp] at e
  cases hk : isKey x with
  | false => rw [hk] at e; cases e
  | true =>
    rw [hk] at e
    cases e2 : pairUp ts with
    | none => rw [e2] at e; cases e
    | some ps2 =>
      rw [e2] at e
      cases e
      refine ⟨ps2, rfl, fun m3 H3 l k3 rs3 rd => ?_⟩
      obtain ⟨kk, hkk⟩ := isKey_of hk
      have ev := keyOf_v hkk rx
      subst ev
      exact q m3 H3 ((kk, v2) :: l) ((k1.trans k2).trans k3) rs3 (.cons ⟨hkk, ry.mono k3⟩ rd)
theorem px_disp {X : Cx} {CA : ClsAt} {pos : Pos} {keys : List (Option Expr)} {values : List Expr} {wa : Wa} (d : DispOk X CA pos keys values wa) (h0 : keys ≠ []) (h15 : keys.length ≤ 15) : PX X CA (.Dict keys values pos) (wDisp wa) := by
  obtain ⟨ma, trs, hp, h1, h2, h3⟩ := d
  refine PE.imp (pe_disp hp h1 h2 h0 h15) fun σ H Q q => ?_
  obtain ⟨m, ρ, S, rs, re, q⟩ := q
  intro D hD
  have k0 : Step m H m (upd H D (.dK [])) := Step.new hD
  have hDA : CA.H0 D = none := rs.base_none hD
  refine h3 m ρ S σ _ _ (rs.new hD) (re.mono k0) (ma _ _ _ _ (fun ts S1 q => ?_) q)
  obtain ⟨ps, e, hl, q⟩ := q
  refine ⟨ps, e, fun m1 H1 l k1 rs1 rd => ?_⟩
  obtain ⟨eD, nD⟩ := k1.at_out (rs.notin hD) upd_same
  refine ⟨eD, l, rfl, by rw [← Paired.len rd]; exact hl, ?_⟩
  have kp : Kp m1 H1 m1 (upd H1 D (.dK (mergeK [] l))) := ⟨List.prefix_refl _, fun a ys z => by
      rw [upd_ne fun y => by subst y; rw [eD] at z; cases z]
      exact z, fun a o' u z => by
      rw [upd_ne fun y => by subst y; rw [eD] at z; cases z]
      exact z⟩
  have rs2 : RelS X.K CA (upd H1 D (.dK (mergeK [] l))) m1 S1 := ⟨rs1.nd, rs1.len, fun i c a e1 e2 => (rs1.at_ i c a e1 e2).monoK kp (upd_ne fun z => nD (z ▸ List.mem_of_getElem? e2)), rs1.from_.grow hDA⟩
  have rd2 : RelD X.K (upd H1 D (.dK (mergeK [] l))) (m1 ++ [D]) (dmake ps) (mergeK [] l) := Paired.imp (fun _ _ q => ⟨q.1, (q.2.monoK kp).monoK Kp.add⟩) (dmake_rel rd .nil)
  have k2 : Step m H m1 (upd H1 D (.dK (mergeK [] l))) := (k0.trans k1).grow hD
  exact q (m1 ++ [D]) _ _ (k2.add hD) (rs2.add nD hDA ⟨_, upd_same, rd2⟩) (obj_new rs1.len)
/-! ### texts cut at a sign -/
def gSplit : Gm := fun x ts S Q => ∃ a c, x = .str a ∧ ts = [.str [c]] ∧ a.length + 2 ≤ 16777216 ∧ Q (.obj S.length) (S ++ [.lst ((splitC c a).map .str)])
theorem mono_split : MonoM gSplit := fun _ _ _ _ _ h q => by
  obtain ⟨a, c, h1, h2, h3, q⟩ := q
  exact ⟨a, c, h1, h2, h3, h _ _ q⟩
theorem txt_split' (a : List Nat) (c : Nat) : Txt.split (mkS a) (mkS [c]) = (splitC c a).map mkS := by
  have h := txt_split (mkS a) c
  rw [mkS_cps] at h
  rw [← h, List.map_map]
  have : (mkS ∘ fun p : Str => p.cps.toList) = id := funext fun p => mkS_toList p
  rw [this, List.map_id]
theorem mx_split {X : Cx} {CA : ClsAt} : MtX X CA "str.split" gSplit := by
  intro pins s σ H x xs v us Q I rx rv h
  obtain ⟨m, S, t, ts, rs, r1, r2, a, c, rfl, rfl, hz, q⟩ := h
  cases r1
  obtain ⟨vy, rfl, ry⟩ := relTs1 r2
  cases ry
  refine mt_split pins s σ H _ _ v us Q I rx rv ⟨mkS a, mkS [c], rfl, rfl, rfl, by rw [mkS_len]; exact hz, fun p hp => ?_⟩
  rw [txt_split']
  exact q (m ++ [p]) _ _ (Step.push hp) (push_lst rs hp (relTs_strs _)) (obj_new rs.len)
/-! ### d.get(k, v), d.setdefault(k, v) -/
inductive D2 where
  | get | setd
  deriving DecidableEq
def d2W (d : D2) (i : Nat) (y z : T) (S : Sta) (Q : T → Sta → Prop) : Prop := ∃ kvs, S[i]? = some (.dct kvs) ∧ isKey y = true ∧ match d with
  | .get => Q ((dget kvs y).getD z) S
  | .setd => kvs.length < sizeLine ∧ match dget kvs y with
    | some v => Q v S
    | none => Q z (S.set i (.dct (dput kvs y z)))
theorem d2W_mono {d : D2} {i : Nat} {y z : T} {S : Sta} {Q Q' : T → Sta → Prop} (h : ∀ t S', Q t S' → Q' t S') (q : d2W d i y z S Q) : d2W d i y z S Q' := by
  obtain ⟨kvs, h1, h2, q⟩ := q
  refine ⟨kvs, h1, h2, ?_⟩
  cases d with
  | get => exact h _ _ q
  | setd =>
    obtain ⟨h3, q⟩ := q
    refine ⟨h3, ?_⟩
    cases e : dget kvs y with
    | none => rw [e] at q; exact h _ _ q
    | some v => rw [e] at q; exact h _ _ q
def wD2 (d : D2) (wo wa wb : Wp) : Wp := fun ρ S Q => wo ρ S fun x S1 => ∃ i kv0, x = .obj i ∧ S1[i]? = some (.dct kv0) ∧ wa ρ S1 fun y S2 => wb ρ S2 fun z S3 => d2W d i y z S3 Q
theorem mono_d2 {d : D2} {wo wa wb : Wp} (o : MonoW wo) (a : MonoW wa) (b : MonoW wb) : MonoW (wD2 d wo wa wb) := fun _ _ _ _ h q => o _ _ _ _ (fun _ _ q => by
  obtain ⟨i, kv0, h1, h2, q⟩ := q
  exact ⟨i, kv0, h1, h2, a _ _ _ _ (fun _ _ q => b _ _ _ _ (fun _ _ q => d2W_mono h q) q) q⟩) q
def D2.name : D2 → Str
  | .get => "get"
  | .setd => "setdefault"
section
variable {X : Cx} {CA : ClsAt} {o e f : Expr} {m : Str} {apos pos : Pos} {wo wa wb : Wp}
theorem m2_of (hf : methOk o apos pos [e, f] [] = true) : M2 X o m apos e f pos := by
  unfold methOk at hf
  simp only [Bool.and_eq_true, decide_eq_true_eq] at hf
  obtain ⟨⟨⟨⟨h1, hst⟩, _⟩, h4⟩, h5⟩ := hf
  have hst' := hst
  rw [List.all_cons, Bool.and_eq_true, List.all_cons, Bool.and_eq_true] at hst'
  refine ⟨plainBase_ok h1 _ _ _, ?_, h5, ?_⟩
  · rw [back_all hst, Bool.true_and, Bool.and_eq_true]
    exact ⟨rfl, rfl⟩
  · rw [star_cons hst'.1, star_cons hst'.2.1]
    rfl
theorem px_d2 (d : D2) (hu : X.A.units + 110 < cLine) (mo : MonoW wo) (ma : MonoW wa) (mb : MonoW wb) (ho : PX X CA o wo) (ha : PX X CA e wa) (hb : PX X CA f wb) (hf : methOk o apos pos [e, f] [] = true) :
    PX X CA (.Call (.Attribute o d.name apos) [e, f] [] pos) (wD2 d wo wa wb) := by
  cases d with
  | get =>
    refine PE.imp (pe_dget2 (by omega) ho ha hb (m2_of hf)) fun σ H Q q => ?_
    obtain ⟨m, ρ, S, rs, re, q⟩ := q
    refine lift_of mo rs re q fun x S1 m1 H1 v k1 rs1 re1 rx q => ?_
    obtain ⟨i, kv0, rfl, e0, q⟩ := q
    obtain ⟨a, l0, rfl, hm, e4, _⟩ := dct_at rs1 rx e0
    refine ⟨a, rfl, .inl ⟨_, .inl e4⟩, ?_⟩
    refine lift_of ma rs1 re1 q fun y S2 m2 H2 u k2 rs2 re2 ry q => ?_
    refine lift_of mb rs2 re2 q fun z S3 m3 H3 w k3 rs3 re3 rz q => ?_
    obtain ⟨kvs, ec, hk, q⟩ := q
    obtain ⟨a', l, e5, hm', e6, rd⟩ := dct_at rs3 ((rx.mono k2).mono k3) ec
    cases e5
    obtain ⟨kk, hkk⟩ := isKey_of hk
    have ev := keyOf_v hkk (ry.mono k3)
    subst ev
    refine ⟨valV l kk, DGet.k e6, ?_⟩
    have fin : ∀ {t : T} {v : V}, RelT X.K H3 m3 t v → After X.K CA m H Q t S3 → Q v H3 := fun r q => q m3 H3 _ ((k1.trans k2).trans k3) rs3 r
    rcases dget_rel rd hkk with ⟨h1, h2⟩ | ⟨t, v, h1, h2, h3⟩
    · simp only [h1] at q
      rw [h2]
      exact fin rz q
    · simp only [h1] at q
      rw [h2]
      exact fin h3 q
  | setd =>
    refine PE.imp (pe_dsetd ho ha hb (m2_of hf)) fun σ H Q q => ?_
    obtain ⟨m, ρ, S, rs, re, q⟩ := q
    refine lift_of mo rs re q fun x S1 m1 H1 v k1 rs1 re1 rx q => ?_
    obtain ⟨i, kv0, rfl, e0, q⟩ := q
    obtain ⟨a, l0, rfl, hm, e4, _⟩ := dct_at rs1 rx e0
    refine ⟨a, rfl, .inl ⟨_, .inl e4⟩, ?_⟩
    refine lift_of ma rs1 re1 q fun y S2 m2 H2 u k2 rs2 re2 ry q => ?_
    refine lift_of mb rs2 re2 q fun z S3 m3 H3 w k3 rs3 re3 rz q => ?_
    obtain ⟨kvs, ec, hk, hl, q⟩ := q
    obtain ⟨a', l, e5, hm', e6, rd⟩ := dct_at rs3 ((rx.mono k2).mono k3) ec
    cases e5
    obtain ⟨kk, hkk⟩ := isKey_of hk
    have ev := keyOf_v hkk (ry.mono k3)
    subst ev
    refine ⟨l, kk, e6, rfl, by rw [← Paired.len rd]; exact hl, fun v hv => ?_, fun hv => ?_⟩
    · rcases dget_rel rd hkk with ⟨h1, h2⟩ | ⟨t, v', h1, h2, h3⟩
      · rw [h2] at hv; cases hv
      · rw [h2] at hv; cases hv
        simp only [h1] at q
        exact q m3 H3 _ ((k1.trans k2).trans k3) rs3 h3
    · rcases dget_rel rd hkk with ⟨h1, h2⟩ | ⟨t, v', h1, h2, h3⟩
      · simp only [h1] at q
        obtain ⟨k4, r4⟩ := putDct rs3 hm' e6 (dput_rel rd hkk rz)
        exact q m3 _ _ (((k1.trans k2).trans k3).trans k4) r4 (rz.mono k4)
      · rw [h2] at hv; cases hv
end
end TR
set_option Elab.async false
set_option linter.all false
set_option maxRecDepth 100000
set_option maxHeartbeats 2000000
/-! TH4: {key for x in xs if ..}, the keys texts or numbers. -/
namespace TR
open PySem PySem.Spec L2 PpSet
open PyProof.Rows hiding St

section
variable {X : Cx}
/-- what a turn asks: D the new set, Nx what stands behind the turn -/
abbrev SkTurn (P : Program) (w : World) (D : Addr) (te : TE) (Nx : Hp → Prop) : L2.St → Hp → Prop := fun σ H => te σ H fun y H1 => ∃ (k : Key) (ks : List Key), y = kV k ∧ H1 D = some (SetKO P w D ks) ∧ ks.length + 1 < scanBound ∧ Nx (upd H1 D (SetKO P w D (addK ks k)))
def tSk (P : Program) (w : World) (wi : TI) (g : TG) (tt : TT) (te : TE) (vs : List Nat) : TE := fun σ H Q => wi σ H fun J H1 => ∀ D, H1 D = none → ∃ W : Nat → Nat → Hp → Prop, (∃ m, W 0 m (upd H1 D (SetKO P w D []))) ∧ ∀ i m H2, W i m H2 →
  (J.stop i H2 ∧ Q (.ref D) H2) ∨ (J.go i H2 ∧ ∃ Nx : Hp → Prop, (∀ H3, Nx H3 → ∃ m', m' < m ∧ W (i + 1) m' H3) ∧ ∀ x H3, J.yld i H2 x H3 → g x (wipe σ vs) H3 fun σ2 H4 => wipe σ2 vs = wipe σ vs ∧ tt σ2 H4 fun b H5 => if b = true then SkTurn P w D te Nx σ2 H5 else Nx H5)
/-- what holds of a block's parts, wherever the block stands -/
abbrev InBlk (X : Cx) (scope : Scope) (F : Cx → Prop) : Prop := ∀ (s : Shared) (H : Hp) (C : Addr) (cl : List (Str × Addr)) (fp : List Addr), F (X.blk s H scope (compEnvC scope cl C X.env) fp)
theorem pe_sk {elt tg iter : Expr} {ifs : List Expr} {scope : Scope} {own : List (Str × Nat)} {pos : Pos} {wi : TI} {g : TG} {tt : TT} {te : TE} (hc : X.calm = true) (hN : X.N.Nodup) (hi : PI X tg iter wi) (ok : BlkOk X.N X.env.scope scope own)
    (hg : InBlk X scope fun Y => PG Y tg g) (ht : InBlk X scope fun Y => PTs Y ifs tt) (he : InBlk X scope fun Y => PE Y elt te) (hs : ∀ x, foldedSetIterable iter X.env x = pure x) :
    PE X (.SetComp elt [⟨tg, iter, ifs, 0⟩] scope pos) (tSk X.prog X.w wi g tt te (own.map (·.2))) := by
  refine ⟨fun pins s σ H Q I h => ?_⟩
  rw [eval_SetComp]
  have caught : ∀ y ∈ scope.names, y.2 = .free → ∃ c, X.env.cells.lookup y.1 = some c := fun y hy e => (ok.free y hy e).elim (fun k => I.ok.has _ (.inl k)) fun k => I.ok.has _ (.inr k)
  refine wpAny_comprehension_free (use := none) rfl hs (closure_ok caught) ok.kind (fun y hy e => (ok.uniq y hy).trans (congrArg some e)) (thn (hi.run pins s σ H _ I h) fun xv s1 hx => thn hx fun itv s2 h2 => ?_)
  obtain ⟨it, fp, tn, J, H2, rfl, I2, T, st2, f2, q⟩ := h2
  refine newSet_ok (newEnv_comp ?_)
  -- the new set
  obtain ⟨W, ⟨m0, w0⟩, turn⟩ := q s2.heap.objs.size (I2.hok.fresh (Nat.le_refl _))
  generalize hD : s2.heap.objs.size = D at w0 turn ⊢
  obtain ⟨s3, h3⟩ : ∃ s3 : Shared, s3 = { s2 with heap := s2.heap.push { cls := .type "set", dict := none, data := .set #[] 0 (.fresh 0 0 (!X.w.params.followText "set-order")) } } := ⟨_, rfl⟩
  obtain ⟨H3, hH3⟩ : ∃ H3 : Hp, H3 = upd H2 D (SetKO X.prog X.w D []) := ⟨_, rfl⟩
  rw [← h3]
  rw [← hH3] at w0
  have grow : ∀ b o, s2.heap.get? b = some o → s3.heap.get? b = some o := fun b o e => by rw [h3]; exact Heap.get?_push_of_some _ e
  have I3 : L2.Inv X pins σ H3 s3 := by
    rw [hH3, h3]
    refine I2.laid (t' := s2.toks) (fun b o e => Heap.get?_push_of_some _ e) (Nat.le_of_eq hD) ?_
    rw [← hD]
    exact setKO_ok (ks := []) SetX.new .nil
  have low : ∀ b ∈ fp, b < s2.heap.objs.size := fun b hb => by
    obtain ⟨o, e, _⟩ := T.obj _ _ st2 b hb
    exact Heap.lt_size e
  have off3 : ∀ b ∈ fp, FpOk X pins H3 b ∧ b < s3.heap.objs.size := fun b hb => by
    have lt := low b hb
    refine ⟨⟨?_, (f2 b hb).2⟩, ?_⟩
    · rw [hH3, upd_ne (by rw [← hD]; exact Nat.ne_of_lt lt)]
      exact (f2 b hb).1
    · rw [h3, Heap.size_push]
      exact Nat.lt_succ_of_lt lt
  have none3 : ∀ b ∈ fp, H3 b = none := fun b hb => (off3 b hb).1.1
  have I4 := block_start I3 ok hN off3
  have pg := hg s3 H3 s3.heap.objs.size (cellsFrom (s3.heap.objs.size + 1) scope.names (cloFrom X.env.cells scope.names [])) fp
  have pt := ht s3 H3 s3.heap.objs.size (cellsFrom (s3.heap.objs.size + 1) scope.names (cloFrom X.env.cells scope.names [])) fp
  have pe := he s3 H3 s3.heap.objs.size (cellsFrom (s3.heap.objs.size + 1) scope.names (cloFrom X.env.cells scope.names [])) fp
  show codeAny _ _ (.compStart (.SetComp elt [⟨tg, iter, ifs, 0⟩] scope pos) 0 (.ref it) (.ref D) (compEnvC scope (cellsFrom (s3.heap.objs.size + 1) scope.names (cloFrom X.env.cells scope.names [])) s3.heap.objs.size X.env)) _ { s3 with heap := pushCells (s3.heap.push { cls := .type "dict", data := .dict #[] }) scope.names }
  generalize hce : compEnvC scope (cellsFrom (s3.heap.objs.size + 1) scope.names (cloFrom X.env.cells scope.names [])) s3.heap.objs.size X.env = ce at I4 pg pt pe ⊢
  have cL : ce.locals = s3.heap.objs.size := by rw [← hce]; rfl
  obtain ⟨s4, hs4⟩ : ∃ s4 : Shared, s4 = { s3 with heap := pushCells (s3.heap.push { cls := .type "dict", data := .dict #[] }) scope.names } := ⟨_, rfl⟩
  rw [← hs4] at I4 ⊢
  have st4 : tn 0 s4.heap := T.keep _ _ _ st2 fun b _ o e => by rw [hs4]; exact pushCells_keeps _ _ _ _ (Heap.get?_push_of_some _ (grow b o e))
  have stat : ∀ {σ' : L2.St} {H' : Hp} {s' : Shared}, L2.Inv (X.blk s3 H3 scope ce fp) [] σ' H' s' → (∀ b ∈ fp, H' b = none) → ∀ b ∈ fp, FpOk (X.blk s3 H3 scope ce fp) [] H' b := fun I' hn b hb =>
    ⟨hn b hb, (I'.ok.exf b hb).1, I'.ok.exfs b hb, .inl hb, fun x c e => (I'.ok.exf b hb).2 x c e, fun p hp => absurd (show p ∈ ([] : List (Addr × Obj)) ++ [] from hp) (by simp)⟩
  have loop : codeAny (model X.prog X.w) X.A (.compLoop (.SetComp elt [⟨tg, iter, ifs, 0⟩] scope pos) 0 (.ref it) (.ref D) ce) (compPost (model X.prog X.w) X.A X.xe none (fun u s' => ∃ x H', L2.Inv X pins σ H' s' ∧ RelV x u ∧ Q x H') (.ref D) s3.heap.objs.size) s4 := by
    refine compLoopS_any (fun n s' => ∃ i H', L2.Inv (X.blk s3 H3 scope ce fp) [] (wipe σ (own.map (·.2))) H' s' ∧ tn i s'.heap ∧ (∀ b ∈ fp, H' b = none) ∧ W i n H') ?_ m0 ⟨0, H3, I4, st4, none3, w0⟩
    rintro n s5 ⟨i, H5, I5, st5, n5, w5⟩
    rcases turn i n H5 w5 with ⟨stop, qq⟩ | ⟨go, Nx, hNx, step⟩
    · refine thnF (T.done (X.blk s3 H3 scope ce fp) rfl rfl rfl hc i [] s5 _ H5 (fun _ _ => False) I5 (stat I5 n5) st5 stop) fun r s6 ⟨hr, I6⟩ => ?_
      subst hr
      have I7 : L2.Inv X pins σ H5 s6 := I3.call' (ch := fp) I6.os I6.base I6.hok I6.bare fun b hb => ⟨(off3 b hb).1.2.2.2.1, (off3 b hb).1.2.1, (off3 b hb).1.2.2.2.2.1, (off3 b hb).1.2.2.2.2.2⟩
      have nC : H5 s3.heap.objs.size = none := cL ▸ (show H5 ce.locals = none from I6.free)
      obtain ⟨m, hn, _⟩ := I6.loc
      refine ⟨m, cL ▸ (show s6.heap.Ns ce.locals m from hn), fun h'' sb => ?_⟩
      obtain ⟨f0, f1, f2, f3, f4, f5⟩ := I3.fpOk (Nat.le_refl _) nC
      exact ⟨.ref D, H5, I7.turned (t' := s6.toks) (fun b o hb e => (sb.2 b hb).trans e) f0 f1 f3 f4 f5, rfl, qq⟩
    · refine thnF (T.item (X.blk s3 H3 scope ce fp) rfl rfl rfl hc i [] s5 _ H5 (fun _ _ => False) I5 (stat I5 n5) st5 go) fun r s6 ⟨u, hr, h6⟩ => ?_
      subst hr
      refine thnF h6 fun _ s7 ⟨x, H7, I7, r7, y7, st7, n7⟩ => ?_
      refine thnF (pg.run _ s7 _ H7 x u _ (I7.pinned (stat I7 n7) (T.obj _ _ st7)) r7 (step x H7 y7)) fun _ s8 ⟨σ8, H8, I8, hw8, q8⟩ => ?_
      refine thnF (pt.run _ s8 σ8 H8 _ I8 q8) fun b s9 ⟨H9, I9, q9⟩ => ?_
      have over : ∀ {s' : Shared} {H' : Hp}, L2.Inv (X.blk s3 H3 scope ce fp) ([] ++ pinsAt fp s7.heap) σ8 H' s' → Nx H' → ∃ m, m < n ∧ ∃ i H', L2.Inv (X.blk s3 H3 scope ce fp) [] (wipe σ (own.map (·.2))) H' s' ∧ tn i s'.heap ∧ (∀ b ∈ fp, H' b = none) ∧ W i m H' := fun {s' H'} I' nx => by
        obtain ⟨m', hm, w'⟩ := hNx H' nx
        have still : ∀ b ∈ fp, ∀ o, s7.heap.get? b = some o → s'.heap.get? b = some o ∧ H' b = none := fun b hb o e => by
          have z := I'.pin (b, o) (List.mem_append_right _ (List.mem_append_right _ (mem_pinsAt hb e)))
          exact ⟨z.1, z.2.1⟩
        refine ⟨m', hm, i + 1, H', (I'.unpinned (pins := [])).weak (by rw [← hw8, wipe_length]) (fun j v e => ?_), T.keep _ _ _ st7 fun b hb o e => (still b hb o e).1, fun b hb => ?_, w'⟩
        · rw [← hw8] at e
          exact (wipe_some e).1
        · obtain ⟨o, e, _⟩ := T.obj _ _ st7 b hb
          exact (still b hb o e).2
      cases b with
      | false => exact over I9 q9
      | true =>
        refine thnF (pe.run _ s9 σ8 H9 _ I9 q9) fun z s10 ⟨yv, H10, I10, r10, k, ks, ey, hD10, room, nx⟩ => ?_
        subst ey
        exact setKO_add (X := X.blk s3 H3 scope ce fp) I10 hD10 r10 room fun s11 I11 => over I11 nx
  exact codeAny_compStart_set loop (T.self X.A 0 _ _ _ st4 loop)
end
end TR
set_option Elab.async false
set_option linter.all false
set_option maxRecDepth 100000
set_option maxHeartbeats 2000000
/-! TH5: dict comprehensions, sorted and len of set comprehensions, list comprehensions of two clauses. -/
namespace TR
open PySem PySem.Spec L2
open PyProof.Rows hiding St

section
variable {K : PySem.W.Frag} {CA : ClsAt} {m m' m0 : List Addr} {H H' H0 : Hp} {S : Sta} {D : Addr} {o o1 : HO}
def loose : HO → Bool
  | .tup _ => false
  | .frz _ _ => false
  | _ => true
theorem Kp.growO (e : H D = some o1) (h : loose o1 = true) : Kp m H m (upd H D o) :=
  ⟨List.prefix_refl _, fun a ys z => by
      rw [upd_ne fun y => by subst y; rw [e] at z; cases z; cases h]
      exact z, fun a o' u z => by
      rw [upd_ne fun y => by subst y; rw [e] at z; cases z; cases h]
      exact z⟩
theorem RelS.growO (r : RelS K CA H m S) (hD : D ∉ m) (e : H D = some o1) (h : loose o1 = true) (h0 : CA.H0 D = none) : RelS K CA (upd H D o) m S :=
  ⟨r.nd, r.len, fun i c a h1 h2 => (r.at_ i c a h1 h2).monoK (Kp.growO e h) (upd_ne fun z => hD (z ▸ List.mem_of_getElem? h2)), r.from_.grow h0⟩
end
/-! ### {k: v for x in xs if ..} -/
def dcW (g : Sta → Prop) (p : Pat) (tt : Wt) (wk wv : Wp) (ρ0 : Ev) (R : List (T × T) → Sta → Prop) : List T → List (T × T) → Sta → Prop
  | [], acc, S => g S ∧ R acc S
  | x :: xs, acc, S => g S ∧ ∃ ρ1, bindP p x S ρ0 = some ρ1 ∧ tt ρ1 S fun b S2 =>
      if b = true then wk ρ1 S2 fun y S3 => wv ρ1 S3 fun z S4 => isKey y = true ∧ acc.length < sizeLine ∧ dcW g p tt wk wv ρ0 R xs (dput acc y z) S4 else dcW g p tt wk wv ρ0 R xs acc S2
theorem dcW_mono {g : Sta → Prop} {p : Pat} {tt : Wt} {wk wv : Wp} {ρ0 : Ev} (mt : MonoT tt) (mk : MonoW wk) (mv : MonoW wv) {R R' : List (T × T) → Sta → Prop} (h : ∀ ts S, R ts S → R' ts S) : ∀ (xs : List T) (acc : List (T × T)) (S : Sta), dcW g p tt wk wv ρ0 R xs acc S → dcW g p tt wk wv ρ0 R' xs acc S
  | [], acc, S, q => ⟨q.1, h _ _ q.2⟩
  | x :: xs, acc, S, q => by
    obtain ⟨q1, ρ1, q2, q3⟩ := q
    refine ⟨q1, ρ1, q2, mt _ _ _ _ (fun b S2 q => ?_) q3⟩
    cases b with
    | true => exact mk _ _ _ _ (fun y S3 q => mv _ _ _ _ (fun z S4 q => ⟨q.1, q.2.1, dcW_mono mt mk mv h xs _ S4 q.2.2⟩) q) q
    | false => exact dcW_mono mt mk mv h xs _ S2 q
def wDc (wi : Wi) (p : Pat) (tt : Wt) (wk wv : Wp) (own : List Nat) : Wp := fun ρ S Q => wi ρ S fun xs g S1 => dcW g p tt wk wv (wipeE ρ own) (fun ts S2 => Q (.obj S2.length) (S2 ++ [.dct ts])) xs [] S1
theorem mono_dc {wi : Wi} {p : Pat} {tt : Wt} {wk wv : Wp} {own : List Nat} (mi : MonoI wi) (mt : MonoT tt) (mk : MonoW wk) (mv : MonoW wv) : MonoW (wDc wi p tt wk wv own) := fun _ _ _ _ h q => mi _ _ _ _ (fun xs g S q => dcW_mono mt mk mv (fun _ _ q => h _ _ q) xs [] S q) q
/-! ### sorted({k for x in xs if ..}), len of it -/
def addS (zs : List (List Nat)) (z : List Nat) : List (List Nat) := if zs.any (fun y => decide (y = z)) = true then zs else zs ++ [z]
def skW (g : Sta → Prop) (p : Pat) (tt : Wt) (we : Wp) (ρ0 : Ev) (R : List (List Nat) → Sta → Prop) : List T → List (List Nat) → Sta → Prop
  | [], acc, S => g S ∧ R acc S
  | x :: xs, acc, S => g S ∧ ∃ ρ1, bindP p x S ρ0 = some ρ1 ∧ tt ρ1 S fun b S2 =>
      if b = true then we ρ1 S2 fun y S3 => ∃ z, y = .str z ∧ acc.length + 1 < scanBound ∧ skW g p tt we ρ0 R xs (addS acc z) S3 else skW g p tt we ρ0 R xs acc S2
theorem skW_mono {g : Sta → Prop} {p : Pat} {tt : Wt} {we : Wp} {ρ0 : Ev} (mt : MonoT tt) (me : MonoW we) {R R' : List (List Nat) → Sta → Prop} (h : ∀ ts S, R ts S → R' ts S) : ∀ (xs : List T) (acc : List (List Nat)) (S : Sta), skW g p tt we ρ0 R xs acc S → skW g p tt we ρ0 R' xs acc S
  | [], acc, S, q => ⟨q.1, h _ _ q.2⟩
  | x :: xs, acc, S, q => by
    obtain ⟨q1, ρ1, q2, q3⟩ := q
    refine ⟨q1, ρ1, q2, mt _ _ _ _ (fun b S2 q => ?_) q3⟩
    cases b with
    | true => exact me _ _ _ _ (fun y S3 ⟨z, e, l, q⟩ => ⟨z, e, l, skW_mono mt me h xs _ S3 q⟩) q
    | false => exact skW_mono mt me h xs _ S2 q
inductive Sh where
  | sorted | len
  deriving DecidableEq
def shR (s : Sh) (Q : T → Sta → Prop) (zs : List (List Nat)) (S : Sta) : Prop := match s with
  | .sorted => ∀ ys : List (List Nat), ys.Perm zs → sortedS (ys.map mkS) = true → Q (.obj S.length) (S ++ [.lst (ys.map .str)])
  | .len => Q (.int zs.length) S
theorem shR_mono {s : Sh} {Q Q' : T → Sta → Prop} (h : ∀ t S, Q t S → Q' t S) {zs : List (List Nat)} {S : Sta} (q : shR s Q zs S) : shR s Q' zs S := by
  cases s with
  | sorted => exact fun ys a b => h _ _ (q ys a b)
  | len => exact h _ _ q
def wSk (s : Sh) (wi : Wi) (p : Pat) (tt : Wt) (we : Wp) (own : List Nat) : Wp := fun ρ S Q => wi ρ S fun xs g S1 => skW g p tt we (wipeE ρ own) (shR s Q) xs [] S1
theorem mono_sk {s : Sh} {wi : Wi} {p : Pat} {tt : Wt} {we : Wp} {own : List Nat} (mi : MonoI wi) (mt : MonoT tt) (me : MonoW we) : MonoW (wSk s wi p tt we own) := fun _ _ _ _ h q => mi _ _ _ _ (fun xs g S q => skW_mono mt me (fun _ _ q => shR_mono h q) xs [] S q) q
abbrev kStr (z : List Nat) : Key := .inr (mkS z)
theorem kStr_inj {a b : List Nat} (h : kStr a = kStr b) : a = b := by
  have e : mkS a = mkS b := Sum.inr.inj h
  rw [← mkS_cps a, ← mkS_cps b, e]
theorem addS_key (zs : List (List Nat)) (z : List Nat) : (addS zs z).map kStr = addK (zs.map kStr) (kStr z) := by
  by_cases h : z ∈ zs
  · rw [addK_in (List.mem_map_of_mem h), addS, if_pos (List.any_eq_true.mpr ⟨z, h, decide_eq_true rfl⟩)]
  · rw [addK_out, addS, if_neg, List.map_append]; rfl
    · intro y
      obtain ⟨a, ha, e⟩ := List.any_eq_true.mp y
      exact h (of_decide_eq_true e ▸ ha)
    · intro y
      obtain ⟨a, ha, e⟩ := List.mem_map.mp y
      exact h (kStr_inj e ▸ ha)
section
variable {X : Cx} {CA : ClsAt} {pos : Pos} {tg iter elt kx vx : Expr} {ifs : List Expr} {p : Pat} {wi : Wi} {tt : Wt} {we wk wv : Wp} {vs : List Nat}
theorem tDc_of (mi : MonoI wi) (mt : MonoT tt) (mk : MonoW wk) (mv : MonoW wv) (hv : ∀ i ∈ p.vars, i ∈ vs) {σ : L2.St} {H : Hp} {Q : VK} (q : lift X.K CA (wDc wi p tt wk wv vs) σ H Q) :
    tDc (liftI X.K CA wi) (tgP X.K CA p) (liftT X.K CA tt) (lift X.K CA wk) (lift X.K CA wv) vs σ H Q := by
  obtain ⟨m, ρ, S, rs, re, q⟩ := q
  refine ⟨m, ρ, S, rs, re, mi _ _ _ _ (fun xs g S1 q => ?_) q⟩
  intro m1 H1 J k1 rs1 wkk D hD
  have hD0 : H D = none := rs1.back_none k1 hD
  have hDA : CA.H0 D = none := rs1.base_none hD
  have rw0 : RelE X.K H1 m1 (wipeE ρ vs) (wipe σ vs) := (relE_wipe re vs).mono k1
  refine ⟨fun i n H' => n = xs.length - i ∧ i ≤ xs.length ∧ ∃ m' S' acc vacc, Step m1 H1 m' H' ∧ RelS X.K CA H' m' S' ∧ D ∉ m' ∧ H' D = some (.dK vacc) ∧ RelD X.K H' m' acc vacc ∧
      dcW g p tt wk wv (wipeE ρ vs) (fun ts S2 => After X.K CA m H Q (.obj S2.length) (S2 ++ [.dct ts])) (xs.drop i) acc S',
    ⟨xs.length, by simp, Nat.zero_le _, m1, S1, [], [], Step.new hD, rs1.new hD, rs1.notin hD, upd_same, .nil, q⟩, ?_⟩
  rintro i n H' ⟨rfl, hi, m', S', acc, vacc, k', rs', nD, eD, ra, q'⟩
  by_cases hlt : i < xs.length
  · rw [List.drop_eq_getElem_cons hlt] at q'
    obtain ⟨hgS, ρ2, hb2, q'⟩ := q'
    obtain ⟨_, hgo⟩ := wkk m' H' S' k'.kp rs' hgS
    obtain ⟨go, yl⟩ := hgo i xs[i] (List.getElem?_eq_getElem hlt)
    refine .inr ⟨go, fun H2 => ∃ m2 S2 acc vacc, Step m1 H1 m2 H2 ∧ RelS X.K CA H2 m2 S2 ∧ D ∉ m2 ∧ H2 D = some (.dK vacc) ∧ RelD X.K H2 m2 acc vacc ∧
        dcW g p tt wk wv (wipeE ρ vs) (fun ts S2 => After X.K CA m H Q (.obj S2.length) (S2 ++ [.dct ts])) (xs.drop (i + 1)) acc S2,
      fun H2 h => ⟨xs.length - (i + 1), by omega, rfl, hlt, h⟩, fun v H2 y => ?_⟩
    obtain ⟨k2, rs2, rt2⟩ := yl v H2 y
    obtain ⟨eD2, _⟩ := k2.at_out nD eD
    refine ⟨m', wipeE ρ vs, S', _, ρ2, rs2, (rw0.mono k').mono k2, rt2, hb2, fun σ3 re3 hw3 => ⟨by rw [hw3 vs hv, wipe_idem], ?_⟩⟩
    refine liftT_of mt rs2 re3 q' fun b S4 m4 H4 k4 rs4 re4 q4 => ?_
    obtain ⟨eD4, nD4⟩ := k4.at_out nD eD2
    have ra4 : RelD X.K H4 m4 acc vacc := Paired.imp (fun _ _ q => ⟨q.1, (q.2.mono k2).mono k4⟩) ra
    cases b with
    | false => exact ⟨m4, S4, acc, vacc, (k'.trans k2).trans k4, rs4, nD4, eD4, ra4, q4⟩
    | true =>
      refine lift_of mk rs4 re4 q4 fun y S5 m5 H5 v5 k5 rs5 re5 ry5 q5 => ?_
      obtain ⟨eD5, nD5⟩ := k5.at_out nD4 eD4
      refine lift_of mv rs5 re5 q5 fun z S6 m6 H6 v6 k6 rs6 re6 rz6 q6 => ?_
      obtain ⟨eD6, nD6⟩ := k6.at_out nD5 eD5
      obtain ⟨hk, hl, q6⟩ := q6
      obtain ⟨kk, hkk⟩ := isKey_of hk
      have ra6 : RelD X.K H6 m6 acc vacc := Paired.imp (fun _ _ q => ⟨q.1, (q.2.mono k5).mono k6⟩) ra4
      exact ⟨vacc, kk, keyOf_v hkk ry5, eD6, by rw [← Paired.len ra]; exact hl, m6, S6, dput acc y z, putK vacc kk v6, ((((k'.trans k2).trans k4).trans k5).trans k6).grow hD, rs6.growO nD6 eD6 rfl hDA, nD6, upd_same,
        Paired.imp (fun _ _ q => ⟨q.1, q.2.monoK (Kp.growO eD6 rfl)⟩) (dput_rel ra6 hkk rz6), q6⟩
  · have e : i = xs.length := by omega
    subst e
    rw [List.drop_length] at q'
    obtain ⟨hgS, q'⟩ := q'
    obtain ⟨st, _⟩ := wkk m' H' S' k'.kp rs' hgS
    refine .inl ⟨st _ (Nat.le_refl _), ?_⟩
    exact q' (m' ++ [D]) H' _ ((k1.trans k').add hD0) (rs'.add nD hDA ⟨vacc, eD, Paired.imp (fun _ _ q => ⟨q.1, q.2.monoK Kp.add⟩) ra⟩) (obj_new rs'.len)
theorem tSk_of (s : Sh) (mi : MonoI wi) (mt : MonoT tt) (me : MonoW we) (hv : ∀ i ∈ p.vars, i ∈ vs) {σ : L2.St} {H : Hp} {Q : VK} {F : VK} (q : lift X.K CA (wSk s wi p tt we vs) σ H Q)
    (fin : ∀ m (zs : List (List Nat)) m' S' H' D, Step m H m' H' → RelS X.K CA H' m' S' → H' D = some (SetKO X.prog X.w D (zs.map kStr)) → shR s (After X.K CA m H Q) zs S' → F (.ref D) H') :
    tSk X.prog X.w (liftI X.K CA wi) (tgP X.K CA p) (liftT X.K CA tt) (lift X.K CA we) vs σ H F := by
  obtain ⟨m, ρ, S, rs, re, q⟩ := q
  refine ⟨m, ρ, S, rs, re, mi _ _ _ _ (fun xs g S1 q => ?_) q⟩
  intro m1 H1 J k1 rs1 wkk D hD
  have hD0 : H D = none := rs1.back_none k1 hD
  have hDA : CA.H0 D = none := rs1.base_none hD
  have rw0 : RelE X.K H1 m1 (wipeE ρ vs) (wipe σ vs) := (relE_wipe re vs).mono k1
  refine ⟨fun i n H' => n = xs.length - i ∧ i ≤ xs.length ∧ ∃ m' S' acc, Step m1 H1 m' H' ∧ RelS X.K CA H' m' S' ∧ D ∉ m' ∧ H' D = some (SetKO X.prog X.w D (acc.map kStr)) ∧
      skW g p tt we (wipeE ρ vs) (shR s (After X.K CA m H Q)) (xs.drop i) acc S',
    ⟨xs.length, by simp, Nat.zero_le _, m1, S1, [], Step.new hD, rs1.new hD, rs1.notin hD, upd_same, q⟩, ?_⟩
  rintro i n H' ⟨rfl, hi, m', S', acc, k', rs', nD, eD, q'⟩
  by_cases hlt : i < xs.length
  · rw [List.drop_eq_getElem_cons hlt] at q'
    obtain ⟨hgS, ρ2, hb2, q'⟩ := q'
    obtain ⟨_, hgo⟩ := wkk m' H' S' k'.kp rs' hgS
    obtain ⟨go, yl⟩ := hgo i xs[i] (List.getElem?_eq_getElem hlt)
    refine .inr ⟨go, fun H2 => ∃ m2 S2 acc, Step m1 H1 m2 H2 ∧ RelS X.K CA H2 m2 S2 ∧ D ∉ m2 ∧ H2 D = some (SetKO X.prog X.w D (acc.map kStr)) ∧ skW g p tt we (wipeE ρ vs) (shR s (After X.K CA m H Q)) (xs.drop (i + 1)) acc S2,
      fun H2 h => ⟨xs.length - (i + 1), by omega, rfl, hlt, h⟩, fun v H2 y => ?_⟩
    obtain ⟨k2, rs2, rt2⟩ := yl v H2 y
    obtain ⟨eD2, _⟩ := k2.at_out nD eD
    refine ⟨m', wipeE ρ vs, S', _, ρ2, rs2, (rw0.mono k').mono k2, rt2, hb2, fun σ3 re3 hw3 => ⟨by rw [hw3 vs hv, wipe_idem], ?_⟩⟩
    refine liftT_of mt rs2 re3 q' fun b S4 m4 H4 k4 rs4 re4 q4 => ?_
    obtain ⟨eD4, nD4⟩ := k4.at_out nD eD2
    cases b with
    | false => exact ⟨m4, S4, acc, (k'.trans k2).trans k4, rs4, nD4, eD4, q4⟩
    | true =>
      refine lift_of me rs4 re4 q4 fun y S5 m5 H5 v5 k5 rs5 re5 ry5 q5 => ?_
      obtain ⟨eD5, nD5⟩ := k5.at_out nD4 eD4
      obtain ⟨z, rfl, hl, q5⟩ := q5
      cases ry5
      refine ⟨kStr z, acc.map kStr, rfl, eD5, by rw [List.length_map]; exact hl, m5, S5, addS acc z, (((k'.trans k2).trans k4).trans k5).grow hD, rs5.growO nD5 eD5 rfl hDA, nD5, ?_, q5⟩
      rw [upd_same, addS_key]
  · have e : i = xs.length := by omega
    subst e
    rw [List.drop_length] at q'
    obtain ⟨hgS, q'⟩ := q'
    obtain ⟨st, _⟩ := wkk m' H' S' k'.kp rs' hgS
    exact .inl ⟨st _ (Nat.le_refl _), fin m acc m' S' H' D (k1.trans k') rs' eD q'⟩
variable {scope : Scope} {own : List (Str × Nat)}
theorem px_dc (hc : X.calm = true) (hN : X.N.Nodup) (mi : MonoI wi) (mt : MonoT tt) (mk : MonoW wk) (mv : MonoW wv) (hv : ∀ i ∈ p.vars, i ∈ own.map (·.2)) (hi : PXI X CA tg iter wi) (ok : BlkOk X.N X.env.scope scope own)
    (hg : InBlk X scope fun Y => PG Y tg (tgP X.K CA p)) (ht : InBlk X scope fun Y => PXTs Y CA ifs tt) (hk : InBlk X scope fun Y => PX Y CA kx wk) (he : InBlk X scope fun Y => PX Y CA vx wv) (hs : ∀ x, foldedSetIterable iter X.env x = pure x) :
    PX X CA (.DictComp kx vx [⟨tg, iter, ifs, 0⟩] scope pos) (wDc wi p tt wk wv (own.map (·.2))) :=
  PE.imp (pe_dc hc hN hi ok hg ht hk he hs) fun σ H Q q => tDc_of mi mt mk mv hv q
def Sh.name : Sh → Str
  | .sorted => "sorted"
  | .len => "len"
theorem px_sk (s : Sh) {p2 pos2 : Pos} (hc : X.calm = true) (hN : X.N.Nodup) (mi : MonoI wi) (mt : MonoT tt) (me : MonoW we) (hv : ∀ i ∈ p.vars, i ∈ own.map (·.2)) (hi : PXI X CA tg iter wi) (ok : BlkOk X.N X.env.scope scope own)
    (hg : InBlk X scope fun Y => PG Y tg (tgP X.K CA p)) (ht : InBlk X scope fun Y => PXTs Y CA ifs tt) (he : InBlk X scope fun Y => PX Y CA elt we) (hs : ∀ x, foldedSetIterable iter X.env x = pure x)
    (hgl : Gl X s.name) (hm : X.mg s.name = none) :
    PX X CA (.Call (.Name s.name p2) [.SetComp elt [⟨tg, iter, ifs, 0⟩] scope pos] [] pos2) (wSk s wi p tt we (own.map (·.2))) := by
  have pa : PA X [.SetComp elt [⟨tg, iter, ifs, 0⟩] scope pos] (tCons (tSk X.prog X.w (liftI X.K CA wi) (tgP X.K CA p) (liftT X.K CA tt) (lift X.K CA we) (own.map (·.2))) tNil) := pa_cons (pe_sk hc hN hi ok hg ht he hs) pa_nil
  cases s with
  | sorted =>
    refine PE.imp (pe_callB (x := "sorted") (cr_sortX hc) hgl hm rfl pa) fun σ H Q q => ?_
    refine tSk_of (F := fun v H1 => rSortX X.prog X.w [v] H1 Q) .sorted mi mt me hv q fun m zs m' S' H' D k rs eD q => ?_
    refine ⟨D, zs.map mkS, rfl, by rw [List.map_map]; exact eD, fun ys p h1 h2 hp => ?_⟩
    obtain ⟨ws, rfl, hw⟩ := perm_mkS h1
    exact q ws hw h2 (m' ++ [p]) _ _ (k.trans (Step.push hp)) (push_lst rs hp (relTs_strs ws)) (obj_new rs.len)
  | len =>
    refine PE.imp (pe_callB (x := "len") cr_lenX hgl hm rfl pa) fun σ H Q q => ?_
    refine tSk_of (F := fun v H1 => rLenX X.prog X.w [v] H1 Q) .len mi mt me hv q fun m zs m' S' H' D k rs eD q => ?_
    refine ⟨D, zs.map kStr, rfl, eD, ?_⟩
    rw [List.length_map]
    exact q m' H' _ k rs (.int _)
end
/-! ### [e for x in xs if .. for y in ys if ..] -/
def lc2W (g : Sta → Prop) (p : Pat) (tt : Wt) (wi1 : Wi) (p1 : Pat) (tt1 : Wt) (we : Wp) (own1 : List Nat) (ρ0 : Ev) (R : List T → Sta → Prop) : List T → List T → Sta → Prop
  | [], acc, S => g S ∧ R acc S
  | x :: xs, acc, S => g S ∧ ∃ ρ1, bindP p x S ρ0 = some ρ1 ∧ tt ρ1 S fun b S2 =>
      if b = true then wi1 ρ1 S2 fun ys g1 S3 => lcW g1 p1 tt1 we (wipeE ρ1 own1) (fun acc' S4 => lc2W g p tt wi1 p1 tt1 we own1 ρ0 R xs acc' S4) ys acc S3
      else lc2W g p tt wi1 p1 tt1 we own1 ρ0 R xs acc S2
theorem lc2W_mono {g : Sta → Prop} {p p1 : Pat} {tt tt1 : Wt} {wi1 : Wi} {we : Wp} {own1 : List Nat} {ρ0 : Ev} (mt : MonoT tt) (mi1 : MonoI wi1) (mt1 : MonoT tt1) (me : MonoW we) {R R' : List T → Sta → Prop} (h : ∀ ts S, R ts S → R' ts S) :
    ∀ (xs acc : List T) (S : Sta), lc2W g p tt wi1 p1 tt1 we own1 ρ0 R xs acc S → lc2W g p tt wi1 p1 tt1 we own1 ρ0 R' xs acc S
  | [], acc, S, q => ⟨q.1, h _ _ q.2⟩
  | x :: xs, acc, S, q => by
    obtain ⟨q1, ρ1, q2, q3⟩ := q
    refine ⟨q1, ρ1, q2, mt _ _ _ _ (fun b S2 q => ?_) q3⟩
    cases b with
    | true => exact mi1 _ _ _ _ (fun ys g1 S3 q => lcW_mono mt1 me (fun acc' S4 q => lc2W_mono mt mi1 mt1 me h xs acc' S4 q) ys acc S3 q) q
    | false => exact lc2W_mono mt mi1 mt1 me h xs _ S2 q
def wLc2 (wi : Wi) (p : Pat) (tt : Wt) (wi1 : Wi) (p1 : Pat) (tt1 : Wt) (we : Wp) (own own1 : List Nat) : Wp := fun ρ S Q => wi ρ S fun xs g S1 => lc2W g p tt wi1 p1 tt1 we own1 (wipeE ρ own) (fun ts S2 => Q (.obj S2.length) (S2 ++ [.lst ts])) xs [] S1
theorem mono_lc2 {wi : Wi} {p p1 : Pat} {tt tt1 : Wt} {wi1 : Wi} {we : Wp} {own own1 : List Nat} (mi : MonoI wi) (mt : MonoT tt) (mi1 : MonoI wi1) (mt1 : MonoT tt1) (me : MonoW we) : MonoW (wLc2 wi p tt wi1 p1 tt1 we own own1) :=
  fun _ _ _ _ h q => mi _ _ _ _ (fun xs g S q => lc2W_mono mt mi1 mt1 me (fun _ _ q => h _ _ q) xs [] S q) q
section
variable {X : Cx} {CA : ClsAt} {pos : Pos} {tg iter tg1 iter1 elt : Expr} {ifs ifs1 : List Expr} {p p1 : Pat} {wi wi1 : Wi} {tt tt1 : Wt} {we : Wp} {vs vs1 : List Nat}
theorem tLc2_of (mi : MonoI wi) (mt : MonoT tt) (mi1 : MonoI wi1) (mt1 : MonoT tt1) (me : MonoW we) (hv : ∀ i ∈ p.vars, i ∈ vs) (hv1 : ∀ i ∈ p1.vars, i ∈ vs1) (hv2 : ∀ i ∈ vs1, i ∈ vs) {σ : L2.St} {H : Hp} {Q : VK} (q : lift X.K CA (wLc2 wi p tt wi1 p1 tt1 we vs vs1) σ H Q) :
    tLc2 (liftI X.K CA wi) (tgP X.K CA p) (liftT X.K CA tt) (liftI X.K CA wi1) (tgP X.K CA p1) (liftT X.K CA tt1) (lift X.K CA we) vs vs1 σ H Q := by
  obtain ⟨m, ρ, S, rs, re, q⟩ := q
  refine ⟨m, ρ, S, rs, re, mi _ _ _ _ (fun xs g S1 q => ?_) q⟩
  intro m1 H1 J k1 rs1 wk D hD
  have hD0 : H D = none := rs1.back_none k1 hD
  have hDA : CA.H0 D = none := rs1.base_none hD
  have rw0 : RelE X.K H1 m1 (wipeE ρ vs) (wipe σ vs) := (relE_wipe re vs).mono k1
  refine ⟨fun i n H' => n = xs.length - i ∧ i ≤ xs.length ∧ ∃ m' S' acc vacc, Step m1 H1 m' H' ∧ RelS X.K CA H' m' S' ∧ D ∉ m' ∧ H' D = some (.lst vacc) ∧ RelTs X.K H' m' acc vacc ∧
      lc2W g p tt wi1 p1 tt1 we vs1 (wipeE ρ vs) (fun ts S2 => After X.K CA m H Q (.obj S2.length) (S2 ++ [.lst ts])) (xs.drop i) acc S',
    ⟨xs.length, by simp, Nat.zero_le _, m1, S1, [], [], Step.new hD, rs1.new hD, rs1.notin hD, upd_same, .nil, q⟩, ?_⟩
  rintro i n H' ⟨rfl, hi, m', S', acc, vacc, k', rs', nD, eD, ra, q'⟩
  by_cases hlt : i < xs.length
  · rw [List.drop_eq_getElem_cons hlt] at q'
    obtain ⟨hgS, ρ2, hb2, q'⟩ := q'
    obtain ⟨_, hgo⟩ := wk m' H' S' k'.kp rs' hgS
    obtain ⟨go, yl⟩ := hgo i xs[i] (List.getElem?_eq_getElem hlt)
    refine .inr ⟨go, fun H2 => ∃ m2 S2 acc vacc, Step m1 H1 m2 H2 ∧ RelS X.K CA H2 m2 S2 ∧ D ∉ m2 ∧ H2 D = some (.lst vacc) ∧ RelTs X.K H2 m2 acc vacc ∧
        lc2W g p tt wi1 p1 tt1 we vs1 (wipeE ρ vs) (fun ts S2 => After X.K CA m H Q (.obj S2.length) (S2 ++ [.lst ts])) (xs.drop (i + 1)) acc S2,
      fun H2 h => ⟨xs.length - (i + 1), by omega, rfl, hlt, h⟩, fun v H2 y => ?_⟩
    obtain ⟨k2, rs2, rt2⟩ := yl v H2 y
    obtain ⟨eD2, _⟩ := k2.at_out nD eD
    refine ⟨m', wipeE ρ vs, S', _, ρ2, rs2, (rw0.mono k').mono k2, rt2, hb2, fun σ3 re3 hw3 => ⟨by rw [hw3 vs hv, wipe_idem], ?_⟩⟩
    refine liftT_of mt rs2 re3 q' fun b S4 m4 H4 k4 rs4 re4 q4 => ?_
    obtain ⟨eD4, nD4⟩ := k4.at_out nD eD2
    have ra4 := (ra.mono k2).mono k4
    have kk4 := (k'.trans k2).trans k4
    cases b with
    | false => exact ⟨m4, S4, acc, vacc, kk4, rs4, nD4, eD4, ra4, q4⟩
    | true =>
      refine ⟨m4, ρ2, S4, rs4, re4, mi1 _ _ _ _ (fun ys g1 S5 q5 => ?_) q4⟩
      intro m5 H5 J1 k5 rs5 wk1
      obtain ⟨eD5, nD5⟩ := k5.at_out nD4 eD4
      have kk5 := kk4.trans k5
      have re5 : RelE X.K H5 m5 (wipeE ρ2 vs1) (wipe σ3 vs1) := (relE_wipe re4 vs1).mono k5
      refine ⟨fun j n H' => n = ys.length - j ∧ j ≤ ys.length ∧ ∃ m' S' acc vacc, Step m1 H1 m' H' ∧ Kp m5 H5 m' H' ∧ RelS X.K CA H' m' S' ∧ D ∉ m' ∧ H' D = some (.lst vacc) ∧ RelTs X.K H' m' acc vacc ∧ RelE X.K H' m' (wipeE ρ2 vs1) (wipe σ3 vs1) ∧
          lcW g1 p1 tt1 we (wipeE ρ2 vs1) (fun acc' S4 => lc2W g p tt wi1 p1 tt1 we vs1 (wipeE ρ vs) (fun ts S2 => After X.K CA m H Q (.obj S2.length) (S2 ++ [.lst ts])) (xs.drop (i + 1)) acc' S4) (ys.drop j) acc S',
        ⟨ys.length, by simp, Nat.zero_le _, m5, S5, acc, vacc, kk5, Step.rfl'.kp, rs5, nD5, eD5, ra4.mono k5, re5, q5⟩, ?_⟩
      rintro j n H6 ⟨rfl, hj, m6, S6, acc6, vacc6, k6, k56, rs6, nD6, eD6, ra6, re6, q6⟩
      by_cases hlt1 : j < ys.length
      · rw [List.drop_eq_getElem_cons hlt1] at q6
        obtain ⟨hgS6, ρ7, hb7, q7⟩ := q6
        obtain ⟨_, hgo1⟩ := wk1 m6 H6 S6 k56 rs6 hgS6
        obtain ⟨go1, yl1⟩ := hgo1 j ys[j] (List.getElem?_eq_getElem hlt1)
        refine .inr ⟨go1, fun H2 => ∃ m2 S2 acc vacc, Step m1 H1 m2 H2 ∧ Kp m5 H5 m2 H2 ∧ RelS X.K CA H2 m2 S2 ∧ D ∉ m2 ∧ H2 D = some (.lst vacc) ∧ RelTs X.K H2 m2 acc vacc ∧ RelE X.K H2 m2 (wipeE ρ2 vs1) (wipe σ3 vs1) ∧
            lcW g1 p1 tt1 we (wipeE ρ2 vs1) (fun acc' S4 => lc2W g p tt wi1 p1 tt1 we vs1 (wipeE ρ vs) (fun ts S2 => After X.K CA m H Q (.obj S2.length) (S2 ++ [.lst ts])) (xs.drop (i + 1)) acc' S4) (ys.drop (j + 1)) acc S2,
          fun H2 h => ⟨ys.length - (j + 1), by omega, rfl, hlt1, h⟩, fun v1 H7 y1 => ?_⟩
        obtain ⟨k7, rs7, rt7⟩ := yl1 v1 H7 y1
        obtain ⟨eD7, _⟩ := k7.at_out nD6 eD6
        refine ⟨m6, wipeE ρ2 vs1, S6, _, ρ7, rs7, re6.mono k7, rt7, hb7, fun σ8 re8 hw8 => ⟨by rw [hw8 vs1 hv1, wipe_idem], ?_⟩⟩
        refine liftT_of mt1 rs7 re8 q7 fun b S9 m9 H9 k9 rs9 re9 q9 => ?_
        obtain ⟨eD9, nD9⟩ := k9.at_out nD6 eD7
        have ra9 := (ra6.mono k7).mono k9
        have kk9 := (k6.trans k7).trans k9
        have kk59 := (k56.trans k7.kp).trans k9.kp
        have re59 := (re6.mono k7).mono k9
        cases b with
        | false => exact ⟨m9, S9, acc6, vacc6, kk9, kk59, rs9, nD9, eD9, ra9, re59, q9⟩
        | true =>
          refine lift_of me rs9 re9 q9 fun y S10 m10 H10 v10 k10 rs10 re10 ry10 q10 => ?_
          obtain ⟨eD10, nD10⟩ := k10.at_out nD9 eD9
          have rr : RelTs X.K H10 m10 (acc6 ++ [y]) (vacc6 ++ [v10]) := (ra9.mono k10).append (.cons ry10 .nil)
          exact ⟨vacc6, eD10, by rw [← ra6.length]; exact q10.1, m10, S10, acc6 ++ [y], vacc6 ++ [v10], (kk9.trans k10).grow hD, (kk59.trans k10.kp).trans (Kp.grow eD10), rs10.grow nD10 eD10 hDA, nD10, upd_same, rr.monoK (Kp.grow eD10), (re59.mono k10).monoK (Kp.grow eD10), q10.2⟩
      · have e : j = ys.length := by omega
        subst e
        rw [List.drop_length] at q6
        obtain ⟨hgS6, q6⟩ := q6
        obtain ⟨st1, _⟩ := wk1 m6 H6 S6 k56 rs6 hgS6
        exact .inl ⟨st1 _ (Nat.le_refl _), m6, S6, acc6, vacc6, k6, rs6, nD6, eD6, ra6, q6⟩
  · have e : i = xs.length := by omega
    subst e
    rw [List.drop_length] at q'
    obtain ⟨hgS, q'⟩ := q'
    obtain ⟨st, _⟩ := wk m' H' S' k'.kp rs' hgS
    refine .inl ⟨st _ (Nat.le_refl _), ?_⟩
    exact q' (m' ++ [D]) H' _ ((k1.trans k').add hD0) (rs'.add nD hDA ⟨vacc, eD, ra.monoK Kp.add⟩) (obj_new rs'.len)
variable {scope : Scope} {own : List (Str × Nat)}
theorem px_lc2 (hc : X.calm = true) (hN : X.N.Nodup) (mi : MonoI wi) (mt : MonoT tt) (mi1 : MonoI wi1) (mt1 : MonoT tt1) (me : MonoW we) (hv : ∀ i ∈ p.vars, i ∈ own.map (·.2)) (hv1 : ∀ i ∈ p1.vars, i ∈ own.map (·.2)) (hi : PXI X CA tg iter wi) (ok : BlkOk X.N X.env.scope scope own)
    (hg : InBlk X scope fun Y => PG Y tg (tgP X.K CA p)) (ht : InBlk X scope fun Y => PXTs Y CA ifs tt) (hi1 : InBlk X scope fun Y => PXI Y CA tg1 iter1 wi1) (hg1 : InBlk X scope fun Y => PG Y tg1 (tgP X.K CA p1)) (ht1 : InBlk X scope fun Y => PXTs Y CA ifs1 tt1) (he : InBlk X scope fun Y => PX Y CA elt we)
    (hs : ∀ x, foldedSetIterable iter X.env x = pure x) (hs1 : ∀ env x, foldedSetIterable iter1 env x = pure x) :
    PX X CA (.ListComp elt [⟨tg, iter, ifs, 0⟩, ⟨tg1, iter1, ifs1, 0⟩] scope pos) (wLc2 wi p tt wi1 p1 tt1 we (own.map (·.2)) p1.vars) :=
  PE.imp (pe_lc2 (vs1 := p1.vars) hc hN hi ok hv1 hg ht hi1 hg1 ht1 he hs hs1) fun σ H Q q => tLc2_of mi mt mi1 mt1 me hv (fun _ h => h) hv1 q
theorem pxs_setLc2 {i : Nat} {y : Str} {py spos : Pos} (hc : X.calm = true) (hN : X.N.Nodup) (hy : X.N[i]? = some y) (hyl : X.env.scope.names.lookup y = some .local)
    (hsw : swapsWith (.ListComp elt [⟨tg, iter, ifs, 0⟩, ⟨tg1, iter1, ifs1, 0⟩] scope pos) (some (.Name y py)) spos.line X.env = pure true) (mi : MonoI wi) (mt : MonoT tt) (mi1 : MonoI wi1) (mt1 : MonoT tt1) (me : MonoW we) (hv : ∀ i ∈ p.vars, i ∈ own.map (·.2)) (hv1 : ∀ i ∈ p1.vars, i ∈ own.map (·.2)) (hi : PXI X CA tg iter wi) (ok : BlkOk X.N X.env.scope scope own)
    (hg : InBlk X scope fun Y => PG Y tg (tgP X.K CA p)) (ht : InBlk X scope fun Y => PXTs Y CA ifs tt) (hi1 : InBlk X scope fun Y => PXI Y CA tg1 iter1 wi1) (hg1 : InBlk X scope fun Y => PG Y tg1 (tgP X.K CA p1)) (ht1 : InBlk X scope fun Y => PXTs Y CA ifs1 tt1) (he : InBlk X scope fun Y => PX Y CA elt we)
    (hs : ∀ x, foldedSetIterable iter X.env x = pure x) (hs1 : ∀ env x, foldedSetIterable iter1 env x = pure x) :
    PXS X CA (.Assign [.Name y py] (.ListComp elt [⟨tg, iter, ifs, 0⟩, ⟨tg1, iter1, ifs1, 0⟩] scope pos) spos) (wsAsg (wLc2 wi p tt wi1 p1 tt1 we (own.map (·.2)) p1.vars) (wgN i)) :=
  PS.imp (ps_setLc2 (vs1 := p1.vars) hc hN hy hyl hsw hi ok hv1 hg ht hi1 hg1 ht1 he hs hs1) fun D σ H q => by
    obtain ⟨m, ρ, S, rs, re, q⟩ := q
    refine tLc2_of mi mt mi1 mt1 me hv (fun _ h => h) hv1 ?_
    refine lift_of (mono_lc2 mi mt mi1 mt1 me) rs re q fun t S1 m1 H1 v k1 rs1 re1 rx q => ?_
    exact q m1 H1 _ k1 rs1 (relE_set rx i re1)
end
section
variable {X : Cx} {CA : ClsAt} {pos spos py : Pos} {tg iter kx vx : Expr} {ifs : List Expr} {scope : Scope} {own : List (Str × Nat)} {i : Nat} {y : Str}
/-- name = {k: v for ..} on one line -/
theorem ps_setDc {wi : TI} {g : TG} {tt : TT} {tk tv : TE} (hc : X.calm = true) (hN : X.N.Nodup) (hy : X.N[i]? = some y) (hyl : X.env.scope.names.lookup y = some .local)
    (hsw : swapsWith (.DictComp kx vx [⟨tg, iter, ifs, 0⟩] scope pos) (some (.Name y py)) spos.line X.env = pure true) (hi : PI X tg iter wi) (ok : BlkOk X.N X.env.scope scope own)
    (hg : InBlk X scope fun Y => PG Y tg g) (ht : InBlk X scope fun Y => PTs Y ifs tt) (hk : InBlk X scope fun Y => PE Y kx tk) (he : InBlk X scope fun Y => PE Y vx tv) (hs : ∀ x, foldedSetIterable iter X.env x = pure x) :
    PS X (.Assign [.Name y py] (.DictComp kx vx [⟨tg, iter, ifs, 0⟩] scope pos) spos) (tAsg (tDc wi g tt tk tv (own.map (·.2))) (gName i)) := by
  constructor
  intro pins s σ H D I h
  rw [exec_Assign_Name_used _ _ _ _ hsw]
  have body : wpAny (model X.prog X.w) X.A (comprehension (.DictComp kx vx [⟨tg, iter, ifs, 0⟩] scope pos) scope X.env (firstIterPos [⟨tg, iter, ifs, 0⟩] pos) newDict false (eval iter X.env) (some (assign (.Name y py) X.env))) (fun _ s' => SP X pins D .next s') X.xe s := by
    refine dc_core (Q := fun x H1 => gName i x σ H1 D.nx) hc hN I hi ok hg ht hk he hs h fun L C s' m H' I' q hn f => ?_
    obtain ⟨f0, f1, f2, f3, f4, f5⟩ := f
    show wpAny _ _ (assign (.Name y py) X.env (.ref L)) _ _ _
    refine wpAny_assign_Name (store_ok2 (v := V.ref L) I' hN hy (.inl hyl) rfl (fun s2 I2 ⟨a, sb, ha⟩ => ?_) (.inr hyl))
    have off : C ≠ a := ha.elim (fun z => z ▸ f1) fun z e => f4 y a z e.symm
    exact ⟨m, hn.sameBut sb off, fun h3 sb3 => ⟨_, H', I2.turned (t' := s2.toks) (fun b o hb e => (sb3.2 b hb).trans e) f0 f1 f3 f4 f5, q⟩⟩
  exact wpAny_bind (wpAny_standAt (wpAny_bind (wpAny_bind (thn body fun _ s' hq => wpAny_pure (wpAny_pure hq)))))
theorem pxs_setDc {p : Pat} {wi : Wi} {tt : Wt} {wk wv : Wp} (hc : X.calm = true) (hN : X.N.Nodup) (hy : X.N[i]? = some y) (hyl : X.env.scope.names.lookup y = some .local)
    (hsw : swapsWith (.DictComp kx vx [⟨tg, iter, ifs, 0⟩] scope pos) (some (.Name y py)) spos.line X.env = pure true) (mi : MonoI wi) (mt : MonoT tt) (mk : MonoW wk) (mv : MonoW wv) (hv : ∀ i ∈ p.vars, i ∈ own.map (·.2)) (hi : PXI X CA tg iter wi) (ok : BlkOk X.N X.env.scope scope own)
    (hg : InBlk X scope fun Y => PG Y tg (tgP X.K CA p)) (ht : InBlk X scope fun Y => PXTs Y CA ifs tt) (hk : InBlk X scope fun Y => PX Y CA kx wk) (he : InBlk X scope fun Y => PX Y CA vx wv) (hs : ∀ x, foldedSetIterable iter X.env x = pure x) :
    PXS X CA (.Assign [.Name y py] (.DictComp kx vx [⟨tg, iter, ifs, 0⟩] scope pos) spos) (wsAsg (wDc wi p tt wk wv (own.map (·.2))) (wgN i)) :=
  PS.imp (ps_setDc hc hN hy hyl hsw hi ok hg ht hk he hs) fun D σ H q => by
    obtain ⟨m, ρ, S, rs, re, q⟩ := q
    refine tDc_of mi mt mk mv hv ?_
    refine lift_of (mono_dc mi mt mk mv) rs re q fun t S1 m1 H1 v k1 rs1 re1 rx q => ?_
    exact q m1 H1 _ k1 rs1 (relE_set rx i re1)
end
end TR
set_option Elab.async false
set_option linter.all false
set_option maxRecDepth 100000
set_option maxHeartbeats 2000000
/-! TR15: a small language of trees, and what it means. -/
namespace TR
open PySem PySem.Spec L2
open PyProof.Rows hiding St

inductive Bi where
  | len | abs | max | min | divmod | list | tuple | all | any | dict | sorted
  deriving DecidableEq
inductive Bm where
  | append | join | split
  deriving DecidableEq
inductive E where
  | no
  | nil
  | cons (e es : E)
  | w (e : E)
  | rng1 (a : E)
  | rng2 (a b : E)
  | zip (a b : E)
  | d2 (d : D2) (o a b : E)
  | var (i : Nat)
  | c (t : T)
  | tup (es : E)
  | lst (es : E)
  | disp (es : E)
  | dict0
  | bin (op : Operator) (a b : E)
  | cmp (op : CmpOp) (a b : E)
  | chain (op op' : CmpOp) (a b c : E)
  | and (a b : E)
  | or (a b : E)
  | not (a : E)
  | ite (c a b : E)
  | ix (a b : E)
  | sl (a lo hi : E)
  | rev (a : E)
  | fld (a : E) (f : List Nat)
  | isi (t : Ty) (a : E)
  | bi (b : Bi) (es : E)
  | bm (b : Bm) (o es : E)
  | app (f : Nat) (dts : List T) (es : E)
  | meth (c m : List Nat) (f : Nat) (dts : List T) (o es : E)
  | methK (c m : List Nat) (f n nk : Nat) (o es ks : E)
  | new (c : List Nat) (f : Nat) (dts : List T) (es : E)
  | lc (it : E) (p : Pat) (cond elt : E) (own : List Nat)
  | lc2 (it : E) (p : Pat) (cond it1 : E) (p1 : Pat) (cond1 elt : E) (own : List Nat)
  | dc (it : E) (p : Pat) (cond k v : E) (own : List Nat)
  | sk (s : Sh) (it : E) (p : Pat) (cond elt : E) (own : List Nat)
inductive G where
  | no
  | nm (i : Nat)
  | sub (o i : E)
  | tup (n : Nat) (gs : G)
  | star (n i : Nat) (gs : G)
  | nil
  | cons (g gs : G)
inductive S where
  | nil
  | cons (s r : S)
  | no
  | pass
  | brk
  | cnt
  | x (e : E)
  | ret (e : E)
  | ite (c : E) (a b : S)
  | asg (g : G) (e : E)
  | fld (f : List Nat) (o v : E)
  | for_ (it : E) (p : Pat) (b : S)
  | aug (i : Nat) (e : E)

/-- what is known of the world of a body: the functions that it calls, those that make objects, which names no class has -/
structure Wd where
  Γ : Nat → Co
  Γm : Nat → Co
  noat : List Nat → List Nat → Bool
def Bi.run : Bi → Gn
  | .len => gLen
  | .abs => gAbs
  | .max => gMax
  | .min => gMin
  | .divmod => gDivmod
  | .list => gList
  | .tuple => gTuple
  | .all => gAll
  | .any => gAny
  | .dict => gDict
  | .sorted => gSorted
theorem Bi.mono : ∀ b : Bi, MonoN b.run
  | .len => mono_gLen
  | .abs => mono_gAbs
  | .max => mono_gMax
  | .min => mono_gMin
  | .divmod => mono_gDivmod
  | .list => mono_gList
  | .tuple => mono_gTuple
  | .all => mono_gAll
  | .any => mono_gAny
  | .dict => mono_gDict
  | .sorted => mono_gSorted
def Bm.run : Bm → Gm
  | .append => gAppend
  | .join => gJoin
  | .split => gSplit
def Bm.ty : Bm → Mty
  | .append => .list
  | .join => .str
  | .split => .str
theorem Bm.mono : ∀ b : Bm, MonoM b.run
  | .append => mono_append
  | .join => mono_join
  | .split => mono_split
mutual
def den (W : Wd) : E → Wp
  | .var i => wVar i
  | .c t => wC t
  | .tup es => wTup (denA W es)
  | .lst es => wLst (denA W es)
  | .disp es => wDisp (denA W es)
  | .dict0 => wDict0
  | .bin op a b => wOp (binop op) (den W a) (den W b)
  | .cmp op a b => wOp (cmpG op) (den W a) (den W b)
  | .chain op op' a b c => wChain op op' (den W a) (den W b) (den W c)
  | .and a b => wAnd (den W a) (den W b)
  | .or a b => wOr (den W a) (den W b)
  | .not a => wNot (den W a)
  | .ite c a b => wIf (den W c) (den W a) (den W b)
  | .ix a b => wOp ixG (den W a) (den W b)
  | .sl a lo hi => wSl (den W a) (denO W lo) (denO W hi)
  | .rev a => wRev (den W a)
  | .fld a f => wFld W.noat (den W a) f
  | .isi t a => wIsi t (den W a)
  | .bi b es => wCall b.run (denA W es)
  | .bm b o es => wBm b.ty b.run (den W o) (denA W es)
  | .app f dts es => wApp (W.Γ f) dts (denA W es)
  | .meth c m f dts o es => wMeth c m (W.Γ f) dts (den W o) (denA W es)
  | .methK c m f n nk o es ks => wMethK c m n nk (W.Γ f) (den W o) (denA W es) (denA W ks)
  | .new c f dts es => wNew c (W.Γm f) dts (denA W es)
  | .lc it p cond elt own => wLc (denI W it) p (denT W cond) (den W elt) own
  | .lc2 it p cond it1 p1 cond1 elt own => wLc2 (denI W it) p (denT W cond) (denI W it1) p1 (denT W cond1) (den W elt) own p1.vars
  | .dc it p cond k v own => wDc (denI W it) p (denT W cond) (den W k) (den W v) own
  | .sk s it p cond elt own => wSk s (denI W it) p (denT W cond) (den W elt) own
  | .no => fun _ _ _ => False
  | .nil => fun _ _ _ => False
  | .cons _ _ => fun _ _ _ => False
  | .w _ => fun _ _ _ => False
  | .rng1 _ => fun _ _ _ => False
  | .rng2 _ _ => fun _ _ _ => False
  | .zip _ _ => fun _ _ _ => False
  | .d2 d o a b => wD2 d (den W o) (den W a) (den W b)
def denA (W : Wd) : E → Wa
  | .nil => wNil
  | .cons e es => wCons (den W e) (denA W es)
  | _ => fun _ _ _ => False
def denO (W : Wd) : E → Wo
  | .nil => woN
  | .w e => woS (den W e)
  | _ => fun _ _ _ => False
def denT (W : Wd) : E → Wt
  | .nil => wYes
  | .w e => wT (den W e)
  | _ => fun _ _ _ => False
def denI (W : Wd) : E → Wi
  | .w e => wIt (den W e)
  | .rng1 a => wRng1 (den W a)
  | .rng2 a b => wRng2 (den W a) (den W b)
  | .zip a b => wZip (den W a) (den W b)
  | _ => fun _ _ _ => False
end
mutual
theorem mono_den (W : Wd) : ∀ e : E, MonoW (den W e)
  | .var i => fun _ _ _ _ h q => let ⟨t, e, q⟩ := q; ⟨t, e, h _ _ q⟩
  | .c t => fun _ _ _ _ h q => h _ _ q
  | .tup es => mono_tup (mono_denA W es)
  | .lst es => mono_lst (mono_denA W es)
  | .disp es => mono_disp (mono_denA W es)
  | .dict0 => fun _ _ _ _ h q => h _ _ q
  | .bin op a b => mono_op (fun _ _ _ _ _ h q => binop_mono h q) (mono_den W a) (mono_den W b)
  | .cmp op a b => mono_op cmpG_mono (mono_den W a) (mono_den W b)
  | .chain op op' a b c => mono_chain (mono_den W a) (mono_den W b) (mono_den W c)
  | .and a b => mono_and (mono_den W a) (mono_den W b)
  | .or a b => mono_or (mono_den W a) (mono_den W b)
  | .not a => mono_not (mono_den W a)
  | .ite c a b => mono_if (mono_den W c) (mono_den W a) (mono_den W b)
  | .ix a b => mono_op ixG_mono (mono_den W a) (mono_den W b)
  | .sl a lo hi => mono_sl (mono_den W a) (mono_denO W lo) (mono_denO W hi)
  | .rev a => mono_rev (mono_den W a)
  | .fld a f => mono_fld (mono_den W a)
  | .isi t a => mono_isi (mono_den W a)
  | .bi b es => mono_call b.mono (mono_denA W es)
  | .bm b o es => mono_bm b.mono (mono_den W o) (mono_denA W es)
  | .app f dts es => mono_app (mono_denA W es)
  | .meth c m f dts o es => mono_meth (mono_den W o) (mono_denA W es)
  | .methK c m f n nk o es ks => mono_methK (mono_den W o) (mono_denA W es) (mono_denA W ks)
  | .new c f dts es => mono_new (mono_denA W es)
  | .lc it p cond elt own => mono_lc (mono_denI W it) (mono_denT W cond) (mono_den W elt)
  | .lc2 it p cond it1 p1 cond1 elt own => mono_lc2 (mono_denI W it) (mono_denT W cond) (mono_denI W it1) (mono_denT W cond1) (mono_den W elt)
  | .dc it p cond k v own => mono_dc (mono_denI W it) (mono_denT W cond) (mono_den W k) (mono_den W v)
  | .sk s it p cond elt own => mono_sk (mono_denI W it) (mono_denT W cond) (mono_den W elt)
  | .no => fun _ _ _ _ _ q => q.elim
  | .nil => fun _ _ _ _ _ q => q.elim
  | .cons _ _ => fun _ _ _ _ _ q => q.elim
  | .w _ => fun _ _ _ _ _ q => q.elim
  | .rng1 _ => fun _ _ _ _ _ q => q.elim
  | .rng2 _ _ => fun _ _ _ _ _ q => q.elim
  | .zip _ _ => fun _ _ _ _ _ q => q.elim
  | .d2 d o a b => mono_d2 (mono_den W o) (mono_den W a) (mono_den W b)
theorem mono_denA (W : Wd) : ∀ e : E, MonoA (denA W e) := fun e => by
  cases e with
  | nil => exact mono_nil
  | cons e es => exact mono_cons (mono_den W e) (mono_denA W es)
  | _ => exact fun _ _ _ _ _ q => q.elim
theorem mono_denO (W : Wd) : ∀ e : E, MonoO (denO W e) := fun e => by
  cases e with
  | nil => exact mono_oN
  | w e => exact mono_oS (mono_den W e)
  | _ => exact fun _ _ _ _ _ q => q.elim
theorem mono_denT (W : Wd) : ∀ e : E, MonoT (denT W e) := fun e => by
  cases e with
  | nil => exact mono_yes
  | w e => exact mono_T (mono_den W e)
  | _ => exact fun _ _ _ _ _ q => q.elim
theorem mono_denI (W : Wd) : ∀ e : E, MonoI (denI W e) := fun e => by
  cases e with
  | w e => exact mono_it (mono_den W e)
  | rng1 a => exact mono_rng1 (mono_den W a)
  | rng2 a b => exact mono_rng2 (mono_den W a) (mono_den W b)
  | zip a b => exact mono_zip (mono_den W a) (mono_den W b)
  | _ => exact fun _ _ _ _ _ q => q.elim
end
mutual
def denG (W : Wd) : G → Wg
  | .nm i => wgN i
  | .sub o i => wgSub (den W o) (den W i)
  | .tup n gs => wgTup n (denGs W gs)
  | .star n i gs => wgStar n i (denGs W gs)
  | .no => fun _ _ _ _ => False
  | .nil => fun _ _ _ _ => False
  | .cons _ _ => fun _ _ _ _ => False
def denGs (W : Wd) : G → Wgs
  | .nil => wgNil
  | .cons g gs => wgCons (denG W g) (denGs W gs)
  | _ => fun _ _ _ _ => False
end
mutual
theorem mono_denG (W : Wd) : ∀ g : G, MonoG (denG W g)
  | .nm i => mono_gN
  | .sub o i => mono_gsub (mono_den W o) (mono_den W i)
  | .tup n gs => mono_gtup (mono_denGs W gs)
  | .star n i gs => mono_gstar (mono_denGs W gs)
  | .no => fun _ _ _ _ _ _ q => q.elim
  | .nil => fun _ _ _ _ _ _ q => q.elim
  | .cons _ _ => fun _ _ _ _ _ _ q => q.elim
theorem mono_denGs (W : Wd) : ∀ g : G, MonoGs (denGs W g) := fun g => by
  cases g with
  | nil => exact mono_gnil
  | cons g gs => exact mono_gcons (mono_denG W g) (mono_denGs W gs)
  | _ => exact fun _ _ _ _ _ _ q => q.elim
end
def denS (W : Wd) : S → Ws
  | .nil => wsN
  | .cons s r => wsSeq (denS W s) (denS W r)
  | .no => fun _ _ _ => False
  | .pass => wsN
  | .brk => wsBrk
  | .cnt => wsCnt
  | .x e => wsX (den W e)
  | .ret e => wsR (den W e)
  | .ite c a b => wsIf (den W c) (denS W a) (denS W b)
  | .asg g e => wsAsg (den W e) (denG W g)
  | .fld f o v => wsFld W.noat f (den W o) (den W v)
  | .for_ it p b => wsFor (denI W it) p (denS W b)
  | .aug i e => wsAug i (den W e)
theorem mono_denS (W : Wd) : ∀ s : S, MonoS (denS W s)
  | .nil => mono_sN
  | .cons s r => mono_seq (mono_denS W s) (mono_denS W r)
  | .no => fun _ _ _ _ _ q => q.elim
  | .pass => mono_sN
  | .brk => mono_brk
  | .cnt => mono_cnt
  | .x e => mono_sX (mono_den W e)
  | .ret e => mono_sR (mono_den W e)
  | .ite c a b => mono_sIf (mono_den W c) (mono_denS W a) (mono_denS W b)
  | .asg g e => mono_asg (mono_den W e) (mono_denG W g)
  | .fld f o v => mono_sfld (mono_den W o) (mono_den W v)
  | .for_ it p b => mono_for (mono_denI W it) (mono_denS W b)
  | .aug i e => mono_aug (mono_den W e)
end TR
set_option Elab.async false
set_option linter.all false
set_option maxRecDepth 100000
set_option maxHeartbeats 2000000
/-! TR16: a text read as the small language; that it means that. -/
namespace TR
open PySem PySem.Spec L2
open PyProof.Rows hiding St

/-- what a name of the module is -/
inductive GE where
  | fn (f : Nat) (alts : List (Nat × List T))
  | cls (c : List Nat) (f : Nat) (alts : List (Nat × List T))
  | con (t : T)
  | blt
structure ME where
  c : List Nat
  f : Nat
  alts : List (Nat × List T)
  kalts : List (Nat × List Str)
structure Tb where
  G : List (Str × GE)
  M : List (Str × ME)
def Bi.val : Bi → Value
  | .len => .builtin "len"
  | .abs => .builtin "abs"
  | .max => .builtin "max"
  | .min => .builtin "min"
  | .divmod => .builtin "divmod"
  | .list => .type "list"
  | .tuple => .type "tuple"
  | .all => .builtin "all"
  | .any => .builtin "any"
  | .dict => .type "dict"
  | .sorted => .builtin "sorted"
def biTab : List (Str × Bi) := [("len", .len), ("abs", .abs), ("max", .max), ("min", .min), ("divmod", .divmod), ("list", .list), ("tuple", .tuple), ("all", .all), ("any", .any), ("dict", .dict), ("sorted", .sorted)]
def tyTab : List (Str × Ty) := [("str", .str), ("int", .int), ("bool", .bool), ("tuple", .tuple), ("list", .list), ("dict", .dict)]
def bmTab : List (Str × Bm) := [("append", .append), ("join", .join), ("split", .split)]
def d2Tab : List (Str × D2) := [("get", .get), ("setdefault", .setd)]
theorem d2Tab_ok : ∀ p ∈ d2Tab, p.1 = p.2.name := by
  intro p hp
  simp only [d2Tab, List.mem_cons, List.not_mem_nil, or_false] at hp
  rcases hp with rfl | rfl <;> rfl
def okName (x : Str) : Bool := !(x == ("__debug__" : Str)) && (!(x == ("__classdict__" : Str)) && !(x == ("__name__" : Str)))
theorem biTab_ok : ∀ p ∈ biTab, bootBuiltins p.1 = some p.2.val ∧ okName p.1 = true := by
  intro p hp
  simp only [biTab, List.mem_cons, List.not_mem_nil, or_false] at hp
  rcases hp with rfl | rfl | rfl | rfl | rfl | rfl | rfl | rfl | rfl | rfl | rfl <;> exact ⟨by decide +kernel, by decide +kernel⟩
theorem tyTab_ok : ∀ p ∈ tyTab, bootBuiltins p.1 = some (.type p.2.name) ∧ okName p.1 = true := by
  intro p hp
  simp only [tyTab, List.mem_cons, List.not_mem_nil, or_false] at hp
  rcases hp with rfl | rfl | rfl | rfl | rfl | rfl <;> exact ⟨by decide +kernel, by decide +kernel⟩
theorem lookup_mem {β : Type} : ∀ {l : List (Str × β)} {x : Str} {b : β}, l.lookup x = some b → (x, b) ∈ l
  | [], _, _, h => by cases h
  | (y, c) :: r, x, b, h => by
    rw [List.lookup_cons] at h
    cases e : x == y with
    | true =>
      rw [e] at h
      cases h
      rw [show x = y from by simpa using e]
      exact List.mem_cons_self
    | false =>
      rw [e] at h
      exact List.mem_cons_of_mem _ (lookup_mem h)
theorem lookup_memN {β : Type} : ∀ {l : List (Nat × β)} {x : Nat} {b : β}, l.lookup x = some b → (x, b) ∈ l
  | [], _, _, h => by cases h
  | (y, c) :: r, x, b, h => by
    rw [List.lookup_cons] at h
    cases e : x == y with
    | true =>
      rw [e] at h
      cases h
      rw [show x = y from by simpa using e]
      exact List.mem_cons_self
    | false =>
      rw [e] at h
      exact List.mem_cons_of_mem _ (lookup_memN h)
/-- the place of a name -/
def ixOf (x : Str) : List Str → Option Nat
  | [] => none
  | y :: r => if x == y then some 0 else (ixOf x r).map (· + 1)
theorem ixOf_ok : ∀ {l : List Str} {x : Str} {i : Nat}, ixOf x l = some i → l[i]? = some x
  | [], _, _, h => by cases h
  | y :: r, x, i, h => by
    unfold ixOf at h
    split at h
    · rename_i e
      cases h
      rw [show x = y from by simpa using e]
      rfl
    · cases e : ixOf x r with
      | none => rw [e] at h; cases h
      | some j =>
        rw [e] at h
        cases h
        exact ixOf_ok (i := j) e
def isG (sc : Scope) (x : Str) : Bool := match sc.names.lookup x with
  | some .globalImplicit => true
  | _ => false
def isV (sc : Scope) (x : Str) : Bool := match sc.names.lookup x with
  | some .local => true
  | some .cell => true
  | some .free => true
  | _ => false
theorem isG_ok {X : Cx} {x : Str} (h : isG X.env.scope x = true) : Gl X x := by
  unfold isG at h
  split at h
  · assumption
  · cases h
theorem isV_ok {sc : Scope} {x : Str} (h : isV sc x = true) : Vis sc x := by
  unfold isV at h
  split at h
  · exact .inl (by assumption)
  · exact .inr (.inl (by assumption))
  · exact .inr (.inr (by assumption))
  · cases h
/-- a name that may be stored: a local, a cell (of a block: its own) -/
def isL (blk : Option Scope) (sc : Scope) (x : Str) : Bool := match sc.names.lookup x with
  | some .local => true
  | some .cell => (match blk with
    | none => true
    | some scope => scope.names.lookup x == some .cell)
  | _ => false
def erP (N : List Str) (blk : Option Scope) (sc : Scope) : Nat → Expr → Pat
  | 0, _ => .nil
  | n + 1, e => match e with
    | .Name x _ => bif isL blk sc x then (match ixOf x N with
      | some i => .nm i
      | none => .nil) else .nil
    | .Tuple es _ _ => bif es.all notStar then .tup es.length (es.foldr (fun e r => .cons (erP N blk sc n e) r) .nil) else .nil
    | _ => .nil
section
variable (tb : Tb) (N : List Str)
def erN (sc : Scope) (x : Str) : E := bif isV sc x then (bif okName x then (match ixOf x N with
    | some i => .var i
    | none => .no) else .no)
  else bif isG sc x then (bif okName x then (match tb.G.lookup x with
    | some (.con t) => .c t
    | _ => .no) else .no) else .no
def erL (f : Expr → E) : List Expr → E
  | [] => .nil
  | e :: es => bif notStar e then .cons (f e) (erL f es) else .no
def erO (f : Expr → E) : Option Expr → E
  | none => .nil
  | some e => .w (f e)
def erD (f : Expr → E) : List (Option Expr) → List Expr → E
  | [], [] => .nil
  | some k :: ks, v :: vs => .cons (f k) (.cons (f v) (erD f ks vs))
  | _, _ => .no
def erK (f : Expr → E) : List Keyword → E
  | [] => .nil
  | ⟨_, e, _⟩ :: ks => .cons (f e) (erK f ks)
def erB (op : BoolOp) (f : Expr → E) : List Expr → E
  | [] => .no
  | a :: r => match r with
    | [] => f a
    | _ :: _ => (match op with
      | .And => .and (f a) (erB op f r)
      | .Or => .or (f a) (erB op f r))
def isBlt (sc : Scope) (x : Str) : Bool := isG sc x && (match tb.G.lookup x with
  | some .blt => true
  | _ => false)
/-- f(..) -/
def erC (f : Expr → E) (sc : Scope) (x : Str) (args : List Expr) : E :=
  bif isG sc x && (okName x && args.all notStar) then (match tb.G.lookup x with
    | some (.fn g alts) => (match alts.lookup args.length with
      | some dts => .app g dts (erL f args)
      | none => .no)
    | some (.cls c g alts) => (match alts.lookup args.length with
      | some dts => .new c g dts (erL f args)
      | none => .no)
    | some .blt => (match biTab.lookup x with
      | some b => (match args with
        | [] => .no
        | _ :: _ => .bi b (erL f args))
      | none => bif x == "isinstance" then (match args with
        | [e, .Name y _] => (match tyTab.lookup y with
          | some t => bif isBlt tb sc y then .isi t (f e) else .no
          | none => .no)
        | _ => .no) else .no)
    | _ => .no) else .no
/-- o.m(..) -/
def erM (f : Expr → E) (o : Expr) (m : Str) (apos pos : Pos) (args : List Expr) (kws : List Keyword) : E :=
  bif methOk o apos pos args kws then (match tb.M.lookup m with
    | some e => (match kws with
      | [] => (match e.alts.lookup args.length with
        | some dts => .meth e.c m.cps.toList e.f dts (f o) (erL f args)
        | none => .no)
      | _ :: _ => (match args with
        | [] => .no
        | _ :: _ => bif e.kalts.any (fun p => decide (p = (args.length, kwNames kws))) then .methK e.c m.cps.toList e.f (args.length + 1) (kwNames kws).length (f o) (erL f args) (erK f kws) else .no))
    | none => (match kws with
      | [] => (match bmTab.lookup m with
        | some b => (match args with
          | [] => .no
          | _ :: _ => .bm b (f o) (erL f args))
        | none => (match d2Tab.lookup m with
          | some d => (match args with
            | [a, b] => .d2 d (f o) (f a) (f b)
            | _ => .no)
          | none => .no))
      | _ :: _ => .no)) else .no
/-- what is walked -/
def isTup : Expr → Bool
  | .Tuple _ _ _ => true
  | _ => false
def erI (f : Expr → E) (sc : Scope) (tg : Expr) : Expr → E
  | .Call (.Name x p) args kws pos => bif x == "range" && (isBlt tb sc x && (kws.isEmpty && args.all notStar)) then (match args with
    | [a] => .rng1 (f a)
    | [a, b] => .rng2 (f a) (f b)
    | _ => .no) else bif x == "zip" && (isTup tg && (isBlt tb sc x && (kws.isEmpty && args.all notStar))) then (match args with
    | [a, b] => .zip (f a) (f b)
    | _ => .no) else .w (f (.Call (.Name x p) args kws pos))
  | e => .w (f e)
/-- may stand in a test -/
def tstOk : Nat → Expr → Bool
  | 0, _ => false
  | n + 1, e => match e with
    | .UnaryOp .Not a _ => tstOk n a
    | .BoolOp _ vs _ => vs.all (tstOk n)
    | .IfExp _ _ _ _ => false
    | _ => true
def notSet : Expr → Bool
  | .Set _ _ _ => false
  | _ => true
def ownOf (scope : Scope) : List (Str × Nat) := scope.names.filterMap fun y => match y.2 with
  | .local => (ixOf y.1 N).map fun i => (y.1, i)
  | .cell => (ixOf y.1 N).map fun i => (y.1, i)
  | _ => none
def erT (f : Expr → E) (n : Nat) : List Expr → E
  | [] => .nil
  | [c] => bif tstOk n c then .w (f c) else .no
  | _ => .no
/-- sorted({..}), len({..}) -/
def shTab : List (Str × Sh) := [("sorted", .sorted), ("len", .len)]
def erCS (f : Expr → E) (f' : Expr → E) (sc : Scope) (n : Nat) (sc' : Scope) (pt : Expr → Pat) (x : Str) (scope : Scope) (elt : Expr) (gs : List Comprehension) : E :=
  match gs with
  | [⟨tg, it, ifs, a⟩] => bif decide (a = 0) && (notSet it && (blkC N sc scope (ownOf N scope) && isBlt tb sc x)) then
      (match shTab.lookup x with
        | some s => bif (pt tg).vars.all (fun i => decide (i ∈ (ownOf N scope).map (·.2))) then .sk s (erI tb f sc tg it) (pt tg) (erT f' n ifs) (f' elt) ((ownOf N scope).map (·.2)) else .no
        | none => .no)
      else .no
  | _ => .no
def er : Nat → Scope → Expr → E
  | 0, _, _ => .no
  | n + 1, sc, e => match e with
    | .Name x _ => erN tb N sc x
    | .Constant v _ _ => (match v with
      | .int i => .c (.int i)
      | .bool b => .c (.bl b)
      | .none => .c .non
      | .str x => .c (.str x.cps.toList)
      | _ => .no)
    | .Tuple es _ _ => .tup (erL (er n sc) es)
    | .List es _ => .lst (erL (er n sc) es)
    | .Dict ks vs _ => (match ks with
      | [] => (match vs with
        | [] => .dict0
        | _ => .no)
      | k :: r => bif decide ((k :: r).length ≤ 15) && ((k :: r).all (·.isSome) && decide ((k :: r).length = vs.length)) then .disp (erD (er n sc) (k :: r) vs) else .no)
    | .BinOp a op b _ => .bin op (er n sc a) (er n sc b)
    | .Compare a ops bs _ => (match ops, bs with
      | [op], [b] => bif behindInMarks op b then .no else .cmp op (er n sc a) (er n sc b)
      | [op, op'], [b, c] => bif lastMarks [op, op'] [b, c] then .no else .chain op op' (er n sc a) (er n sc b) (er n sc c)
      | _, _ => .no)
    | .BoolOp op vs _ => erB op (er n sc) vs
    | .UnaryOp op a _ => (match op with
      | .Not => .not (er n sc a)
      | _ => .no)
    | .IfExp c a b _ => bif tstOk n c then .ite (er n sc c) (er n sc a) (er n sc b) else .no
    | .Subscript a b _ => (match b with
      | .Slice lo hi st _ => (match st with
        | none => .sl (er n sc a) (erO (er n sc) lo) (erO (er n sc) hi)
        | some (.UnaryOp .USub (.Constant (.int 1) _ _) _) => (match lo, hi with
          | none, none => .rev (er n sc a)
          | _, _ => .no)
        | _ => .no)
      | b => .ix (er n sc a) (er n sc b))
    | .Attribute a f _ => bif plainBase a then .fld (er n sc a) f.cps.toList else .no
    | .Call fn args kws pos => (match fn with
      | .Name x _ => (match kws with
        | [] => (match args with
          | [.SetComp elt gs scope _] => erCS tb N (er n sc) (er n (relS scope sc)) sc n (relS scope sc) (fun tg => erP N (some scope) (relS scope sc) n tg) x scope elt gs
          | args => erC tb (er n sc) sc x args)
        | _ => .no)
      | .Attribute o m apos => erM tb (er n sc) o m apos pos args kws
      | _ => .no)
    | .ListComp elt gs scope _ => (match gs with
      | [⟨tg, it, ifs, a⟩] => bif decide (a = 0) && (notSet it && blkC N sc scope (ownOf N scope)) then
          (let sc' := relS scope sc
          let p := erP N (some scope) sc' n tg
          bif p.vars.all (fun i => decide (i ∈ (ownOf N scope).map (·.2))) then
            .lc (erI tb (er n sc) sc tg it) p (erT (er n sc') n ifs) (er n sc' elt) ((ownOf N scope).map (·.2))
          else .no) else .no
      | [⟨tg, it, ifs, a⟩, ⟨tg1, it1, ifs1, a1⟩] => bif (decide (a = 0) && decide (a1 = 0)) && ((notSet it && notSet it1) && blkC N sc scope (ownOf N scope)) then
          (let sc' := relS scope sc
          let p := erP N (some scope) sc' n tg
          let p1 := erP N (some scope) sc' n tg1
          bif p.vars.all (fun i => decide (i ∈ (ownOf N scope).map (·.2))) && p1.vars.all (fun i => decide (i ∈ (ownOf N scope).map (·.2))) then
            .lc2 (erI tb (er n sc) sc tg it) p (erT (er n sc') n ifs) (erI tb (er n sc') sc' tg1 it1) p1 (erT (er n sc') n ifs1) (er n sc' elt) ((ownOf N scope).map (·.2))
          else .no) else .no
      | _ => .no)
    | .DictComp kx vx gs scope _ => (match gs with
      | [⟨tg, it, ifs, a⟩] => bif decide (a = 0) && (notSet it && blkC N sc scope (ownOf N scope)) then
          (let sc' := relS scope sc
          let p := erP N (some scope) sc' n tg
          bif p.vars.all (fun i => decide (i ∈ (ownOf N scope).map (·.2))) then
            .dc (erI tb (er n sc) sc tg it) p (erT (er n sc') n ifs) (er n sc' kx) (er n sc' vx) ((ownOf N scope).map (·.2))
          else .no) else .no
      | _ => .no)
    | _ => .no
end
end TR
set_option Elab.async false
set_option linter.all false
set_option maxRecDepth 100000
set_option maxHeartbeats 2000000
/-! TR17: the reading is sound: expressions. -/
namespace TR
open PySem PySem.Spec L2
open PyProof.Rows hiding St

def GOk (W : Wd) (at_ : CAt) (k : Nat) (X : Cx) (p : Str × GE) : Prop := match p.2 with
  | .fn g alts => ∀ q ∈ alts, SiteF X at_ (k + 1) p.1 q.2 (W.Γ g)
  | .cls c g alts => ∀ q ∈ alts, SiteN X at_ k p.1 c q.2 (W.Γm g)
  | .con t => ∃ v u, X.mg p.1 = some u ∧ RelV v u ∧ ∀ H m, RelT X.K H m t v
  | .blt => X.mg p.1 = none
def MOk (W : Wd) (at_ : CAt) (k : Nat) (X : Cx) (p : Str × ME) : Prop :=
  (∀ q ∈ p.2.alts, SiteM X at_ (k + 1) p.2.c p.1 q.2 (W.Γ p.2.f)) ∧ ∀ q ∈ p.2.kalts, SiteMK X at_ (k + 1) p.2.c p.1 (q.1 + 1) q.2 (W.Γ p.2.f)
structure Cok (W : Wd) (tb : Tb) (CA : ClsAt) (k : Nat) (N : List Str) (blk : Option Scope) (sc : Scope) (X : Cx) : Prop where
  names : X.N = N
  nd : N.Nodup
  scope : X.env.scope = sc
  fnk : ∀ x, sc.names.lookup x = some .cell → (match blk with
    | none => true
    | some s => s.names.lookup x == some .cell) = true → X.fn x = true
  calm : X.calm = true
  room : Room (k + 1) X.A
  gl : ∀ p ∈ tb.G, GOk W CA.at_ k X p
  ml : ∀ p ∈ tb.M, MOk W CA.at_ k X p
  cls : ClsOk X.K CA W.noat
section
variable {W : Wd} {tb : Tb} {CA : ClsAt} {k : Nat} {N : List Str} {blk : Option Scope} {sc : Scope} {X : Cx}
theorem Cok.hu (c : Cok W tb CA k N blk sc X) : X.A.units + 110 < cLine := by have := c.room.un; omega
theorem Cok.inB (c : Cok W tb CA k N blk sc X) (s : Shared) (H : Hp) (scope : Scope) (C : Addr) (cl : List (Str × Addr)) (fp : List Addr) : Cok W tb CA k N (some scope) (relS scope sc) (X.blk s H scope (compEnvC scope cl C X.env) fp) where
  names := c.names
  nd := c.nd
  scope := by rw [← c.scope]; rfl
  fnk := fun x _ h => h
  calm := c.calm
  room := c.room
  gl := fun p hp => by
    have g := c.gl p hp
    unfold GOk at g ⊢
    split <;> rename_i e <;> simp only [e] at g
    · exact fun q hq => ⟨(g q hq).ex⟩
    · exact fun q hq => ⟨(g q hq).ex⟩
    · exact g
    · exact g
  ml := fun p hp => ⟨fun q hq => ⟨((c.ml p hp).1 q hq).ex⟩, fun q hq => ⟨((c.ml p hp).2 q hq).ex⟩⟩
  cls := c.cls
theorem px_no {e : Expr} : PX X CA e (fun _ _ _ => False) := ⟨fun _ _ _ _ _ _ q => by
  obtain ⟨_, _, _, _, _, q⟩ := q
  exact q.elim⟩
theorem pxa_no {es : List Expr} : PXA X CA es (fun _ _ _ => False) := ⟨fun _ _ _ _ _ _ _ q => by
  obtain ⟨_, _, _, _, _, q⟩ := q
  exact q.elim⟩
theorem pxt_no {e : Expr} : PXT X CA e (fun _ _ _ => False) := ⟨fun _ _ _ _ _ _ q => by
  obtain ⟨_, _, _, _, _, q⟩ := q
  exact q.elim⟩
theorem pxts_no {es : List Expr} : PXTs X CA es (fun _ _ _ => False) := ⟨fun _ _ _ _ _ _ q => by
  obtain ⟨_, _, _, _, _, q⟩ := q
  exact q.elim⟩
theorem pxo_no {e : Option Expr} : PXO X CA e (fun _ _ _ => False) := ⟨fun _ _ _ _ _ _ q => by
  obtain ⟨_, _, _, _, _, q⟩ := q
  exact q.elim⟩
theorem pxi_no {tg e : Expr} : PXI X CA tg e (fun _ _ _ => False) := ⟨fun _ _ _ _ _ _ q => by
  obtain ⟨_, _, _, _, _, q⟩ := q
  exact q.elim⟩
theorem pxk_no {kws : List Keyword} : PXK X CA kws (fun _ _ _ => False) := ⟨fun _ _ _ _ _ _ _ q => by
  obtain ⟨_, _, _, _, _, q⟩ := q
  exact q.elim⟩
/-! ### patterns -/
theorem assign_each {e : Expr} {es : List Expr} {env : Env} (h : notStar e = true) : assignEach (e :: es) env = (false, assign e env) :: assignEach es env := by
  cases e <;> first | rfl | cases h
theorem each_len {env : Env} : ∀ {es : List Expr}, es.all notStar = true → (assignEach es env).length = es.length ∧ (assignEach es env).findIdx? (·.1) = none
  | [], _ => ⟨rfl, rfl⟩
  | e :: es, h => by
    rw [List.all_cons, Bool.and_eq_true] at h
    rw [assign_each h.1]
    obtain ⟨h1, h2⟩ := each_len (env := env) h.2
    refine ⟨by rw [List.length_cons, List.length_cons, h1], ?_⟩
    rw [List.findIdx?_cons, h2]
    rfl
theorem pg_none {e : Expr} {p : Pat} (h : ∀ t S ρ, bindP p t S ρ = none) : PG X e (tgP X.K CA p) := ⟨fun _ _ _ _ _ _ _ _ _ q => by
  obtain ⟨_, _, _, _, _, _, _, _, e, _⟩ := q
  rw [h] at e
  cases e⟩
theorem isL_ok (c : Cok W tb CA k N blk sc X) {x : Str} (h : isL blk sc x = true) : Loc X.env.scope x ∧ (X.fn x = true ∨ X.env.scope.names.lookup x = some .local) := by
  unfold isL at h
  rw [c.scope]
  split at h
  · rename_i e
    exact ⟨.inl e, .inr e⟩
  · rename_i e
    exact ⟨.inr e, .inl (c.fnk x e h)⟩
  · cases h
theorem sound_P (c : Cok W tb CA k N blk sc X) : ∀ (n : Nat) (e : Expr), PG X e (tgP X.K CA (erP N blk sc n e))
  | 0, e => pg_none fun _ _ _ => by simp [erP, bindP]
  | n + 1, e => by
    have no : PG X e (tgP X.K CA .nil) := pg_none fun _ _ _ => by simp [bindP]
    cases e with
    | Name x pos =>
      show PG X _ (tgP X.K CA (bif isL blk sc x then _ else _))
      cases h : isL blk sc x with
      | false => exact no
      | true =>
        show PG X _ (tgP X.K CA (match ixOf x N with | some i => .nm i | none => .nil))
        cases hi : ixOf x N with
        | none => exact no
        | some i =>
          obtain ⟨h1, h2⟩ := isL_ok c h
          exact pgp_name (by rw [c.names]; exact c.nd) (by rw [c.names]; exact ixOf_ok hi) h1 h2
    | Tuple es kk pos =>
      show PG X _ (tgP X.K CA (bif es.all notStar then _ else _))
      cases h : es.all notStar with
      | false => exact no
      | true =>
        obtain ⟨h1, h2⟩ := each_len (env := X.env) h
        have go : ∀ es : List Expr, es.all notStar = true → PGs X es (tgPs X.K CA (es.foldr (fun e r => .cons (erP N blk sc n e) r) .nil)) := by
          intro es
          induction es with
          | nil => exact fun _ => pgps_nil
          | cons e es ih =>
            intro h
            rw [List.all_cons, Bool.and_eq_true] at h
            exact pgps_cons (sound_P c n e) (ih h.2) (by rw [assign_each h.1]; rfl)
        exact pgp_tup c.calm (go es h) h1 h2
    | _ => exact no
/-! ### lists of expressions -/
theorem sound_L {f : Expr → E} : ∀ {es : List Expr}, (∀ e, PX X CA e (den W (f e))) → PXA X CA es (denA W (erL f es))
  | [], _ => pxa_nil
  | e :: es, hf => by
    show PXA X CA _ (denA W (bif notStar e then _ else _))
    cases h : notStar e with
    | false => exact pxa_no
    | true => exact pxa_cons (mono_den W _) (mono_denA W _) (hf e) (sound_L hf) (star_cons h)
theorem sound_K {f : Expr → E} : ∀ {ks : List Keyword}, (∀ e, PX X CA e (den W (f e))) → PXK X CA ks (denA W (erK f ks))
  | [], _ => pxk_nil
  | ⟨n, e, p⟩ :: es, hf => pxk_cons (mono_den W _) (mono_denA W _) (hf e) (sound_K hf)
theorem sound_O {f : Expr → E} : ∀ {o : Option Expr}, (∀ e, PX X CA e (den W (f e))) → PXO X CA o (denO W (erO f o))
  | none, _ => pxo_none
  | some e, hf => pxo_some (mono_den W _) (hf e)
theorem sound_B {op : BoolOp} {f : Expr → E} {pos : Pos} (hf : ∀ e, PX X CA e (den W (f e))) : ∀ {vs : List Expr}, PX X CA (.BoolOp op vs pos) (den W (erB op f vs))
  | [] => px_no
  | [a] => px_one (hf a)
  | a :: b :: r => by
    cases op with
    | And => exact px_and (mono_den W _) (mono_den W _) (hf a) (sound_B hf)
    | Or => exact px_or (mono_den W _) (mono_den W _) (hf a) (sound_B hf)
theorem sound_BT {op : BoolOp} {f : Expr → E} {pos : Pos} : ∀ {vs : List Expr}, vs ≠ [] → (∀ e ∈ vs, PXT X CA e (wT (den W (f e)))) → PXW X CA (.BoolOp op vs pos) (wT (den W (erB op f vs)))
  | [], h, _ => absurd rfl h
  | [a], _, hf => by
    cases op with
    | And => exact pxw_one_and (hf a List.mem_cons_self)
    | Or => exact pxw_one_or (hf a List.mem_cons_self)
  | a :: b :: r, _, hf => by
    cases op with
    | And => exact pxw_and (mono_den W _) (mono_den W _) (hf a List.mem_cons_self) (sound_BT (List.cons_ne_nil _ _) fun e he => hf e (List.mem_cons_of_mem _ he))
    | Or => exact pxw_or (mono_den W _) (mono_den W _) (hf a List.mem_cons_self) (sound_BT (List.cons_ne_nil _ _) fun e he => hf e (List.mem_cons_of_mem _ he))
theorem sound_D {f : Expr → E} {pos : Pos} (hf : ∀ e, PX X CA e (den W (f e))) : ∀ {ks : List (Option Expr)} {vs : List Expr}, ks.all (·.isSome) = true → ks.length = vs.length → DispOk X CA pos ks vs (denA W (erD f ks vs))
  | [], [], _, _ => disp_nil
  | [], _ :: _, _, h => by cases h
  | none :: ks, _, h, _ => by cases h
  | some k :: ks, [], _, h => by cases h
  | some k :: ks, v :: vs, h, h2 => by
    rw [List.all_cons, Bool.and_eq_true] at h
    exact disp_cons (mono_den W _) (mono_den W _) (hf k) (hf v) (sound_D hf h.2 (Nat.succ.inj h2))

/-! ### names -/
theorem okName_ok {x : Str} (h : okName x = true) : (x == ("__debug__" : Str)) = false ∧ (x == ("__classdict__" : Str)) = false ∧ x ≠ "__name__" := by
  unfold okName at h
  simp only [Bool.and_eq_true, Bool.not_eq_true'] at h
  exact ⟨h.1, h.2.1, fun e => by rw [e] at h; exact absurd h.2.2 (by decide)⟩
theorem sound_N (c : Cok W tb CA k N blk sc X) {x : Str} {pos : Pos} : PX X CA (.Name x pos) (den W (erN tb N sc x)) := by
  unfold erN
  cases hv : isV sc x with
  | true =>
    show PX X CA _ (den W (bif okName x then _ else _))
    cases ho : okName x with
    | false => exact px_no
    | true =>
      show PX X CA _ (den W (match ixOf x N with | some i => E.var i | none => E.no))
      cases hi : ixOf x N with
      | none => exact px_no
      | some i =>
        obtain ⟨h1, h2, _⟩ := okName_ok ho
        exact px_var (by rw [c.names]; exact ixOf_ok hi) (by rw [c.scope]; exact isV_ok hv) h1 h2
  | false =>
    show PX X CA _ (den W (bif isG sc x then _ else _))
    cases hg : isG sc x with
    | false => exact px_no
    | true =>
      show PX X CA _ (den W (bif okName x then _ else _))
      cases ho : okName x with
      | false => exact px_no
      | true =>
        show PX X CA _ (den W (match tb.G.lookup x with | some (.con t) => E.c t | _ => E.no))
        cases hl : tb.G.lookup x with
        | none => exact px_no
        | some ge =>
          cases ge with
          | con t =>
            obtain ⟨v, u, h1, h2, h3⟩ := c.gl _ (lookup_mem hl)
            obtain ⟨hd, _, _⟩ := okName_ok ho
            exact px_of_c (pe_glob (isG_ok (by rw [c.scope]; exact hg)) h1 h2 hd) h3
          | _ => exact px_no
theorem isBlt_ok (c : Cok W tb CA k N blk sc X) {x : Str} (h : isBlt tb sc x = true) : Gl X x ∧ X.mg x = none := by
  unfold isBlt at h
  rw [Bool.and_eq_true] at h
  obtain ⟨h1, h2⟩ := h
  refine ⟨isG_ok (by rw [c.scope]; exact h1), ?_⟩
  split at h2
  · rename_i e
    exact c.gl _ (lookup_mem e)
  · cases h2
theorem bi_ok (hc : X.calm = true) : ∀ b : Bi, BiR X CA b.val b.run
  | .len => bi_len
  | .abs => bi_abs
  | .max => bi_max hc
  | .min => bi_min hc
  | .divmod => bi_divmod
  | .list => bi_list hc
  | .tuple => bi_tuple
  | .all => bi_all hc
  | .any => bi_any hc
  | .dict => bi_dict hc
  | .sorted => bi_sorted hc
theorem px_bival {b : Bi} {x : Str} {p pos : Pos} {e : Expr} {es : List Expr} {wa : Wa} (hc : X.calm = true) (ma : MonoA wa) (hg : Gl X x) (hm : X.mg x = none) (hv : bootBuiltins x = some b.val) (ho : okName x = true) (ha : PXA X CA (e :: es) wa) (hst : (e :: es).all notStar = true) : PX X CA (.Call (.Name x p) (e :: es) [] pos) (wCall b.run wa) := by
  obtain ⟨h1, _, h3⟩ := okName_ok ho
  rw [List.all_cons, Bool.and_eq_true] at hst
  have hb := bi_ok (CA := CA) hc b
  cases b with
  | list => exact px_ty mono_gList ma hb hg hm hv ha h3 h1 (star_cons hst.1) (back_any hst.2)
  | tuple => exact px_ty mono_gTuple ma hb hg hm hv ha h3 h1 (star_cons hst.1) (back_any hst.2)
  | dict => exact px_ty mono_gDict ma hb hg hm hv ha h3 h1 (star_cons hst.1) (back_any hst.2)
  | len => exact px_bi mono_gLen ma hb hg hm hv ha h3 h1 (star_cons hst.1) (back_any hst.2)
  | abs => exact px_bi mono_gAbs ma hb hg hm hv ha h3 h1 (star_cons hst.1) (back_any hst.2)
  | max => exact px_bi mono_gMax ma hb hg hm hv ha h3 h1 (star_cons hst.1) (back_any hst.2)
  | min => exact px_bi mono_gMin ma hb hg hm hv ha h3 h1 (star_cons hst.1) (back_any hst.2)
  | divmod => exact px_bi mono_gDivmod ma hb hg hm hv ha h3 h1 (star_cons hst.1) (back_any hst.2)
  | all => exact px_bi mono_gAll ma hb hg hm hv ha h3 h1 (star_cons hst.1) (back_any hst.2)
  | any => exact px_bi mono_gAny ma hb hg hm hv ha h3 h1 (star_cons hst.1) (back_any hst.2)
  | sorted => exact px_bi mono_gSorted ma hb hg hm hv ha h3 h1 (star_cons hst.1) (back_any hst.2)
/-! ### calls -/
theorem sound_C (c : Cok W tb CA k N blk sc X) {f : Expr → E} {x : Str} {p pos : Pos} (hf : ∀ e, PX X CA e (den W (f e))) : ∀ {args : List Expr}, PX X CA (.Call (.Name x p) args [] pos) (den W (erC tb f sc x args)) := by
  intro args
  unfold erC
  cases h0 : (isG sc x && (okName x && args.all notStar)) with
  | false => exact px_no
  | true =>
    rw [Bool.and_eq_true, Bool.and_eq_true] at h0
    obtain ⟨hg, ho, hst⟩ := h0
    obtain ⟨hd, _, _⟩ := okName_ok ho
    have hg : Gl X x := isG_ok (by rw [c.scope]; exact hg)
    show PX X CA _ (den W (match tb.G.lookup x with | some (.fn g alts) => _ | some (.cls c g alts) => _ | some .blt => _ | _ => _))
    cases hl : tb.G.lookup x with
    | none => exact px_no
    | some ge =>
      have hgo := c.gl _ (lookup_mem hl)
      cases ge with
      | con t => exact px_no
      | fn g alts =>
        show PX X CA _ (den W (match alts.lookup args.length with | some dts => _ | none => _))
        cases ha : alts.lookup args.length with
        | none => exact px_no
        | some dts =>
          have st := hgo _ (lookup_memN ha)
          cases args with
          | nil => exact px_app0 st c.room hg hd
          | cons e es => exact px_app st c.room hg (mono_denA W _) (sound_L hf) hd hst
      | cls cc g alts =>
        show PX X CA _ (den W (match alts.lookup args.length with | some dts => _ | none => _))
        cases ha : alts.lookup args.length with
        | none => exact px_no
        | some dts =>
          have st := hgo _ (lookup_memN ha)
          cases args with
          | nil => exact px_new0 st c.room hg hd
          | cons e es => exact px_new st c.room hg (mono_denA W _) (sound_L hf) hd hst
      | blt =>
        show PX X CA _ (den W (match biTab.lookup x with | some b => _ | none => _))
        cases hb : biTab.lookup x with
        | some b =>
          cases args with
          | nil => exact px_no
          | cons e es => exact px_bival c.calm (mono_denA W _) hg hgo (biTab_ok _ (lookup_mem hb)).1 ho (sound_L hf) hst
        | none =>
          show PX X CA _ (den W (bif x == "isinstance" then _ else _))
          cases hx : x == "isinstance" with
          | false => exact px_no
          | true =>
            have ex : x = "isinstance" := by simpa using hx
            subst ex
            match args, hst with
            | [], _ => exact px_no
            | [_], _ => exact px_no
            | _ :: y :: _ :: _, _ => cases y <;> exact px_no
            | [e, y], hst =>
              cases y with
              | Name y p2 =>
                show PX X CA _ (den W (match tyTab.lookup y with | some t => _ | none => _))
                cases ht : tyTab.lookup y with
                | none => exact px_no
                | some t =>
                  show PX X CA _ (den W (bif isBlt tb sc y then _ else _))
                  cases hy : isBlt tb sc y with
                  | false => exact px_no
                  | true =>
                    obtain ⟨g1, g2⟩ := isBlt_ok c hy
                    obtain ⟨t1, t2⟩ := tyTab_ok _ (lookup_mem ht)
                    obtain ⟨o1, _, o3⟩ := okName_ok t2
                    rw [List.all_cons, Bool.and_eq_true] at hst
                    exact px_isi t t1 o3 o1 hg hgo g1 g2 (mono_den W _) (hf e) hst.1
              | _ => exact px_no
theorem sound_M (c : Cok W tb CA k N blk sc X) {f : Expr → E} {o : Expr} {m : Str} {apos pos : Pos} (hf : ∀ e, PX X CA e (den W (f e))) : ∀ {args : List Expr} {kws : List Keyword}, PX X CA (.Call (.Attribute o m apos) args kws pos) (den W (erM tb f o m apos pos args kws)) := by
  intro args kws
  unfold erM
  cases h0 : methOk o apos pos args kws with
  | false => exact px_no
  | true =>
    show PX X CA _ (den W (match tb.M.lookup m with | some e => _ | none => _))
    cases hl : tb.M.lookup m with
    | some e =>
      obtain ⟨m1, m2⟩ := c.ml _ (lookup_mem hl)
      cases kws with
      | nil =>
        show PX X CA _ (den W (match e.alts.lookup args.length with | some dts => _ | none => _))
        cases ha : e.alts.lookup args.length with
        | none => exact px_no
        | some dts =>
          have st := m1 _ (lookup_memN ha)
          cases args with
          | nil => exact px_meth0 st c.room (mono_den W _) (hf o) h0
          | cons a es => exact px_meth st c.room (mono_den W _) (mono_denA W _) (hf o) (sound_L hf) h0
      | cons kw kws =>
        cases args with
        | nil => exact px_no
        | cons a es =>
          show PX X CA _ (den W (bif e.kalts.any (fun p => decide (p = ((a :: es).length, kwNames (kw :: kws)))) then _ else _))
          cases hk : e.kalts.any (fun p => decide (p = ((a :: es).length, kwNames (kw :: kws)))) with
          | false => exact px_no
          | true =>
            obtain ⟨q, hq, e1⟩ := List.any_eq_true.mp hk
            have e2 := of_decide_eq_true e1
            subst e2
            exact px_methK (m2 _ hq) c.room (mono_den W _) (mono_denA W _) (mono_denA W _) (hf o) (sound_L hf) (sound_K hf) rfl h0
    | none =>
      cases kws with
      | cons _ _ => exact px_no
      | nil =>
        show PX X CA _ (den W (match bmTab.lookup m with | some b => _ | none => _))
        cases hb : bmTab.lookup m with
        | none =>
          show PX X CA _ (den W (match d2Tab.lookup m with | some d => _ | none => _))
          cases hd : d2Tab.lookup m with
          | none => exact px_no
          | some d =>
            have e := d2Tab_ok _ (lookup_mem hd)
            have e : m = d.name := e
            subst e
            match args, h0 with
            | [], _ => exact px_no
            | [_], _ => exact px_no
            | [a, b], h0 => exact px_d2 d c.hu (mono_den W _) (mono_den W _) (mono_den W _) (hf o) (hf a) (hf b) h0
            | _ :: _ :: _ :: _, _ => exact px_no
        | some b =>
          cases args with
          | nil => exact px_no
          | cons a es =>
            have hm := lookup_mem hb
            simp only [bmTab, List.mem_cons, List.not_mem_nil, or_false, Prod.mk.injEq] at hm
            rcases hm with ⟨rfl, rfl⟩ | ⟨rfl, rfl⟩ | ⟨rfl, rfl⟩
            · exact px_bm .list F.plainAttrs_list F.slot_list_append F.type_list_append mx_append mono_append (mono_den W _) (mono_denA W _) (hf o) (sound_L hf) h0
            · exact px_bm .str F.plainAttrs_str F.slot_str_join F.type_str_join mx_join mono_join (mono_den W _) (mono_denA W _) (hf o) (sound_L hf) h0
            · exact px_bm .str F.plainAttrs_str F.slot_str_split F.type_str_split mx_split mono_split (mono_den W _) (mono_denA W _) (hf o) (sound_L hf) h0
theorem notSet_ok {e : Expr} (h : notSet e = true) {env : Env} (x : Value) : foldedSetIterable e env x = pure x := by
  cases e <;> first | rfl | cases h
theorem sound_I (c : Cok W tb CA k N blk sc X) {f : Expr → E} {tg : Expr} (hf : ∀ e, PX X CA e (den W (f e))) : ∀ {e : Expr}, PXI X CA tg e (denI W (erI tb f sc tg e)) := by
  intro e
  have base : ∀ e, PXI X CA tg e (denI W (.w (f e))) := fun e => pxi_val (mono_den W _) (hf e)
  cases e with
  | Call fn args kws pos =>
    cases fn with
    | Name x p =>
      show PXI X CA tg _ (denI W (bif x == "range" && (isBlt tb sc x && (kws.isEmpty && args.all notStar)) then _ else bif x == "zip" && (isTup tg && (isBlt tb sc x && (kws.isEmpty && args.all notStar))) then _ else _))
      cases h0 : x == "range" && (isBlt tb sc x && (kws.isEmpty && args.all notStar)) with
      | false =>
        show PXI X CA tg _ (denI W (bif x == "zip" && (isTup tg && (isBlt tb sc x && (kws.isEmpty && args.all notStar))) then _ else _))
        cases h1 : x == "zip" && (isTup tg && (isBlt tb sc x && (kws.isEmpty && args.all notStar))) with
        | false => exact base _
        | true =>
          rw [Bool.and_eq_true, Bool.and_eq_true, Bool.and_eq_true, Bool.and_eq_true] at h1
          obtain ⟨hx, ht, hb, hk, hst⟩ := h1
          have ex : x = "zip" := by simpa using hx
          subst ex
          obtain ⟨g1, g2⟩ := isBlt_ok c hb
          have ek : kws = [] := by simpa using hk
          subst ek
          match args, hst with
          | [], _ => exact pxi_no
          | [a], _ => exact pxi_no
          | [a, b], hst =>
            rw [List.all_cons, Bool.and_eq_true, List.all_cons, Bool.and_eq_true] at hst
            cases tg with
            | Tuple es kk tp => exact pxi_zip (mono_den W _) (mono_den W _) g1 g2 (hf a) (hf b) (star_cons hst.1) (star_cons hst.2.1)
            | _ => cases ht
          | _ :: _ :: _ :: _, _ => exact pxi_no
      | true =>
        rw [Bool.and_eq_true, Bool.and_eq_true, Bool.and_eq_true] at h0
        obtain ⟨hx, hb, hk, hst⟩ := h0
        have ex : x = "range" := by simpa using hx
        subst ex
        obtain ⟨g1, g2⟩ := isBlt_ok c hb
        have ek : kws = [] := by simpa using hk
        subst ek
        match args, hst with
        | [], _ => exact pxi_no
        | [a], hst =>
          rw [List.all_cons, Bool.and_eq_true] at hst
          exact pxi_range1 (mono_den W _) g1 g2 (hf a) (star_cons hst.1)
        | [a, b], hst =>
          rw [List.all_cons, Bool.and_eq_true, List.all_cons, Bool.and_eq_true] at hst
          have s2 := star_cons (es := []) (env := X.env) hst.2.1
          exact pxi_range2 (mono_den W _) (mono_den W _) g1 g2 (hf a) (hf b) (by rw [star_cons hst.1, s2]; rfl) (by rw [s2]; rfl)
        | _ :: _ :: _ :: _, _ => exact pxi_no
    | _ => exact base _
  | _ => exact base _
end
end TR
set_option Elab.async false
set_option linter.all false
set_option maxRecDepth 100000
set_option maxHeartbeats 2000000
/-! TR18: the reading is sound: all expressions. -/
namespace TR
open PySem PySem.Spec L2
open PyProof.Rows hiding St

section
variable {W : Wd} {tb : Tb} {CA : ClsAt} {k : Nat} {N : List Str}
def SoundE (W : Wd) (tb : Tb) (CA : ClsAt) (k : Nat) (N : List Str) (n : Nat) : Prop := ∀ (blk : Option Scope) (sc : Scope) (X : Cx), Cok W tb CA k N blk sc X → ∀ e : Expr, PX X CA e (den W (er tb N n sc e)) ∧ ∀ j, tstOk j e = true → PXT X CA e (wT (den W (er tb N n sc e)))
theorem soundE_zero : SoundE W tb CA k N 0 := fun _ _ _ _ _ => ⟨px_no, fun _ _ => pxt_no⟩
theorem sound_cmp (hs : SoundE W tb CA k N n) {blk : Option Scope} {sc : Scope} {X : Cx} (c : Cok W tb CA k N blk sc X) (a : Expr) (ops : List CmpOp) (bs : List Expr) (pos : Pos) :
    PX X CA (.Compare a ops bs pos) (den W (er tb N (n + 1) sc (.Compare a ops bs pos))) ∧ PXT X CA (.Compare a ops bs pos) (wT (den W (er tb N (n + 1) sc (.Compare a ops bs pos)))) := by
  have ih := fun e => (hs blk sc X c e).1
  have no : ∀ {w : E}, w = .no → PX X CA (.Compare a ops bs pos) (den W w) ∧ PXT X CA (.Compare a ops bs pos) (wT (den W w)) := fun e => by
    subst e
    exact ⟨px_no, pxt_no⟩
  match ops, bs with
  | [], [] => exact no rfl
  | [], _ :: _ => exact no rfl
  | [_], [] => exact no rfl
  | [op], [b] =>
    show PX X CA _ (den W (bif behindInMarks op b then _ else _)) ∧ PXT X CA _ (wT (den W (bif behindInMarks op b then _ else _)))
    cases h : behindInMarks op b with
    | true => exact no rfl
    | false => exact ⟨px_cmp c.hu (mono_den W _) (mono_den W _) (ih a) (ih b) h, pxt_cmp c.hu (mono_den W _) (mono_den W _) (ih a) (ih b) h⟩
  | [_], _ :: _ :: _ => exact no rfl
  | [_, _], [] => exact no rfl
  | [_, _], [_] => exact no rfl
  | [op, op'], [b, d] =>
    show PX X CA _ (den W (bif lastMarks [op, op'] [b, d] then _ else _)) ∧ PXT X CA _ (wT (den W (bif lastMarks [op, op'] [b, d] then _ else _)))
    cases h : lastMarks [op, op'] [b, d] with
    | true => exact no rfl
    | false => exact ⟨px_chain c.hu (mono_den W _) (mono_den W _) (mono_den W _) (ih a) (ih b) (ih d) h, pxt_chain c.hu (mono_den W _) (mono_den W _) (mono_den W _) (ih a) (ih b) (ih d) h⟩
  | [_, _], _ :: _ :: _ :: _ => exact no rfl
  | _ :: _ :: _ :: _, [] => exact no rfl
  | _ :: _ :: _ :: _, [_] => exact no rfl
  | _ :: _ :: _ :: _, [_, _] => exact no rfl
  | _ :: _ :: _ :: _, _ :: _ :: _ :: _ => exact no rfl
theorem sound_T {f : Expr → E} {X : Cx} (hf : ∀ j e, tstOk j e = true → PXT X CA e (wT (den W (f e)))) {n : Nat} : ∀ {ifs : List Expr}, PXTs X CA ifs (denT W (erT f n ifs))
  | [] => pxts_nil
  | [c] => by
    show PXTs X CA _ (denT W (bif tstOk n c then _ else _))
    cases h : tstOk n c with
    | false => exact pxts_no
    | true => exact pxts_one (hf n c h)
  | _ :: _ :: _ => pxts_no
theorem sound_ix (hs : SoundE W tb CA k N n) {blk : Option Scope} {sc : Scope} {X : Cx} (c : Cok W tb CA k N blk sc X) (a b : Expr) (pos : Pos) : PX X CA (.Subscript a b pos) (den W (er tb N (n + 1) sc (.Subscript a b pos))) := by
  have ih := fun e => (hs blk sc X c e).1
  cases b with
  | Slice lo hi st p2 =>
    cases st with
    | none => exact px_slice c.hu (mono_den W _) (mono_denO W _) (mono_denO W _) (ih a) (sound_O ih) (sound_O ih)
    | some st =>
      cases st with
      | UnaryOp op x p3 =>
        cases op with
        | USub =>
          cases x with
          | Constant v kk p4 =>
            cases v with
            | int i =>
              by_cases hi1 : i = 1
              · subst hi1
                cases lo with
                | some _ => cases hi <;> exact px_no
                | none =>
                  cases hi with
                  | some _ => exact px_no
                  | none => exact px_rev (mono_den W _) (ih a)
              · have e : er tb N (n + 1) sc (.Subscript a (.Slice lo hi (some (.UnaryOp .USub (.Constant (.int i) kk p4) p3)) p2) pos) = .no := by
                  simp only [er]
                  split
                  · rename_i e
                    cases e
                  · rename_i e
                    injection e with e
                    injection e with e1 e2
                    injection e2 with e3
                    injection e3 with e4
                    exact absurd e4 hi1
                  · rfl
                rw [e]
                exact px_no
            | _ => exact px_no
          | _ => exact px_no
        | _ => exact px_no
      | _ => exact px_no
  | _ => exact px_ix c.hu (mono_den W _) (mono_den W _) (ih a) (ih _) rfl
theorem sound_lc (hs : SoundE W tb CA k N n) {blk : Option Scope} {sc : Scope} {X : Cx} (c : Cok W tb CA k N blk sc X) (elt : Expr) (gs : List Comprehension) (scope : Scope) (pos : Pos) :
    PX X CA (.ListComp elt gs scope pos) (den W (er tb N (n + 1) sc (.ListComp elt gs scope pos))) := by
  have ih := fun e => (hs blk sc X c e).1
  match gs with
  | [] => exact px_no
  | ⟨_, _, _, _⟩ :: ⟨_, _, _, _⟩ :: ⟨_, _, _, _⟩ :: _ => exact px_no
  | [⟨tg, it, ifs, a⟩, ⟨tg1, it1, ifs1, a1⟩] =>
    show PX X CA _ (den W (bif (decide (a = 0) && decide (a1 = 0)) && ((notSet it && notSet it1) && blkC N sc scope (ownOf N scope)) then _ else _))
    cases h0 : (decide (a = 0) && decide (a1 = 0)) && ((notSet it && notSet it1) && blkC N sc scope (ownOf N scope)) with
    | false => exact px_no
    | true =>
      rw [Bool.and_eq_true, Bool.and_eq_true, Bool.and_eq_true, Bool.and_eq_true] at h0
      obtain ⟨⟨ha, ha1⟩, ⟨hn, hn1⟩, hb⟩ := h0
      have ea := of_decide_eq_true ha
      have ea1 := of_decide_eq_true ha1
      subst ea
      subst ea1
      show PX X CA _ (den W (bif (erP N (some scope) (relS scope sc) n tg).vars.all (fun i => decide (i ∈ (ownOf N scope).map (·.2))) && (erP N (some scope) (relS scope sc) n tg1).vars.all (fun i => decide (i ∈ (ownOf N scope).map (·.2))) then _ else _))
      cases hv : (erP N (some scope) (relS scope sc) n tg).vars.all (fun i => decide (i ∈ (ownOf N scope).map (·.2))) && (erP N (some scope) (relS scope sc) n tg1).vars.all (fun i => decide (i ∈ (ownOf N scope).map (·.2))) with
      | false => exact px_no
      | true =>
        rw [Bool.and_eq_true] at hv
        have hB := blkOk_by hb
        exact px_lc2 (own := ownOf N scope) c.calm (by rw [c.names]; exact c.nd) (mono_denI W _) (mono_denT W _) (mono_denI W _) (mono_denT W _) (mono_den W _) (fun i hi => of_decide_eq_true (List.all_eq_true.mp hv.1 i hi)) (fun i hi => of_decide_eq_true (List.all_eq_true.mp hv.2 i hi))
          (sound_I c ih) (by rw [c.names, c.scope]; exact hB)
          (fun s H C cl fp => sound_P (c.inB s H scope C cl fp) n tg) (fun s H C cl fp => sound_T fun j e hj => (hs _ _ _ (c.inB s H scope C cl fp) e).2 j hj)
          (fun s H C cl fp => sound_I (c.inB s H scope C cl fp) fun e => (hs _ _ _ (c.inB s H scope C cl fp) e).1) (fun s H C cl fp => sound_P (c.inB s H scope C cl fp) n tg1)
          (fun s H C cl fp => sound_T fun j e hj => (hs _ _ _ (c.inB s H scope C cl fp) e).2 j hj) (fun s H C cl fp => (hs _ _ _ (c.inB s H scope C cl fp) elt).1) (notSet_ok hn) (fun env x => notSet_ok hn1 x)
  | [⟨tg, it, ifs, a⟩] =>
    show PX X CA _ (den W (bif decide (a = 0) && (notSet it && blkC N sc scope (ownOf N scope)) then _ else _))
    cases h0 : decide (a = 0) && (notSet it && blkC N sc scope (ownOf N scope)) with
    | false => exact px_no
    | true =>
      rw [Bool.and_eq_true, Bool.and_eq_true] at h0
      obtain ⟨ha, hn, hb⟩ := h0
      have ea := of_decide_eq_true ha
      subst ea
      show PX X CA _ (den W (bif (erP N (some scope) (relS scope sc) n tg).vars.all (fun i => decide (i ∈ (ownOf N scope).map (·.2))) then _ else _))
      cases hv : (erP N (some scope) (relS scope sc) n tg).vars.all (fun i => decide (i ∈ (ownOf N scope).map (·.2))) with
      | false => exact px_no
      | true =>
        have hB := blkOk_by hb
        refine px_lc (own := ownOf N scope) c.calm (by rw [c.names]; exact c.nd) (mono_denI W _) (mono_denT W _) (mono_den W _) (fun i hi => of_decide_eq_true (List.all_eq_true.mp hv i hi)) (sound_I c ih) (by rw [c.names, c.scope]; exact hB)
          (fun s H C cl fp => sound_P (c.inB s H scope C cl fp) n tg) (fun s H C cl fp => sound_T fun j e hj => (hs _ _ _ (c.inB s H scope C cl fp) e).2 j hj) (fun s H C cl fp => (hs _ _ _ (c.inB s H scope C cl fp) elt).1) (notSet_ok hn)
theorem sound_dc (hs : SoundE W tb CA k N n) {blk : Option Scope} {sc : Scope} {X : Cx} (c : Cok W tb CA k N blk sc X) (kx vx : Expr) (gs : List Comprehension) (scope : Scope) (pos : Pos) :
    PX X CA (.DictComp kx vx gs scope pos) (den W (er tb N (n + 1) sc (.DictComp kx vx gs scope pos))) := by
  have ih := fun e => (hs blk sc X c e).1
  match gs with
  | [] => exact px_no
  | ⟨_, _, _, _⟩ :: ⟨_, _, _, _⟩ :: _ => exact px_no
  | [⟨tg, it, ifs, a⟩] =>
    show PX X CA _ (den W (bif decide (a = 0) && (notSet it && blkC N sc scope (ownOf N scope)) then _ else _))
    cases h0 : decide (a = 0) && (notSet it && blkC N sc scope (ownOf N scope)) with
    | false => exact px_no
    | true =>
      rw [Bool.and_eq_true, Bool.and_eq_true] at h0
      obtain ⟨ha, hn, hb⟩ := h0
      have ea := of_decide_eq_true ha
      subst ea
      show PX X CA _ (den W (bif (erP N (some scope) (relS scope sc) n tg).vars.all (fun i => decide (i ∈ (ownOf N scope).map (·.2))) then _ else _))
      cases hv : (erP N (some scope) (relS scope sc) n tg).vars.all (fun i => decide (i ∈ (ownOf N scope).map (·.2))) with
      | false => exact px_no
      | true =>
        have hB := blkOk_by hb
        exact px_dc (own := ownOf N scope) c.calm (by rw [c.names]; exact c.nd) (mono_denI W _) (mono_denT W _) (mono_den W _) (mono_den W _) (fun i hi => of_decide_eq_true (List.all_eq_true.mp hv i hi)) (sound_I c ih) (by rw [c.names, c.scope]; exact hB)
          (fun s H C cl fp => sound_P (c.inB s H scope C cl fp) n tg) (fun s H C cl fp => sound_T fun j e hj => (hs _ _ _ (c.inB s H scope C cl fp) e).2 j hj) (fun s H C cl fp => (hs _ _ _ (c.inB s H scope C cl fp) kx).1)
          (fun s H C cl fp => (hs _ _ _ (c.inB s H scope C cl fp) vx).1) (notSet_ok hn)
theorem shTab_ok {x : Str} {s : Sh} (h : shTab.lookup x = some s) : x = s.name := by
  have z := lookup_mem h
  simp only [shTab, List.mem_cons, List.not_mem_nil, or_false, Prod.mk.injEq] at z
  rcases z with ⟨rfl, rfl⟩ | ⟨rfl, rfl⟩ <;> rfl
theorem sound_cs (hs : SoundE W tb CA k N n) {blk : Option Scope} {sc : Scope} {X : Cx} (c : Cok W tb CA k N blk sc X) (x : Str) (p : Pos) (elt : Expr) (gs : List Comprehension) (scope : Scope) (pos pos2 : Pos) :
    PX X CA (.Call (.Name x p) [.SetComp elt gs scope pos] [] pos2) (den W (erCS tb N (er tb N n sc) (er tb N n (relS scope sc)) sc n (relS scope sc) (fun tg => erP N (some scope) (relS scope sc) n tg) x scope elt gs)) := by
  have ih := fun e => (hs blk sc X c e).1
  match gs with
  | [] => exact px_no
  | ⟨_, _, _, _⟩ :: ⟨_, _, _, _⟩ :: _ => exact px_no
  | [⟨tg, it, ifs, a⟩] =>
    show PX X CA _ (den W (bif decide (a = 0) && (notSet it && (blkC N sc scope (ownOf N scope) && isBlt tb sc x)) then _ else _))
    cases h0 : decide (a = 0) && (notSet it && (blkC N sc scope (ownOf N scope) && isBlt tb sc x)) with
    | false => exact px_no
    | true =>
      rw [Bool.and_eq_true, Bool.and_eq_true, Bool.and_eq_true] at h0
      obtain ⟨ha, hn, hb, hbl⟩ := h0
      have ea := of_decide_eq_true ha
      subst ea
      show PX X CA _ (den W (match shTab.lookup x with | some s => _ | none => _))
      cases hx : shTab.lookup x with
      | none => exact px_no
      | some s =>
        show PX X CA _ (den W (bif (erP N (some scope) (relS scope sc) n tg).vars.all (fun i => decide (i ∈ (ownOf N scope).map (·.2))) then _ else _))
        cases hv : (erP N (some scope) (relS scope sc) n tg).vars.all (fun i => decide (i ∈ (ownOf N scope).map (·.2))) with
        | false => exact px_no
        | true =>
          have hB := blkOk_by hb
          obtain ⟨g1, g2⟩ := isBlt_ok c hbl
          have e := shTab_ok hx
          subst e
          exact px_sk s (own := ownOf N scope) c.calm (by rw [c.names]; exact c.nd) (mono_denI W _) (mono_denT W _) (mono_den W _) (fun i hi => of_decide_eq_true (List.all_eq_true.mp hv i hi)) (sound_I c ih) (by rw [c.names, c.scope]; exact hB)
            (fun s H C cl fp => sound_P (c.inB s H scope C cl fp) n tg) (fun s H C cl fp => sound_T fun j e hj => (hs _ _ _ (c.inB s H scope C cl fp) e).2 j hj) (fun s H C cl fp => (hs _ _ _ (c.inB s H scope C cl fp) elt).1) (notSet_ok hn) g1 g2
theorem soundE_succ {n : Nat} (hs : SoundE W tb CA k N n) : SoundE W tb CA k N (n + 1) := by
  intro blk sc X c e
  have ih := fun e => (hs blk sc X c e).1
  have iht := fun e => (hs blk sc X c e).2
  have plain : ∀ {w : E}, plainT e = true → PX X CA e (den W w) → PX X CA e (den W w) ∧ ∀ j, tstOk j e = true → PXT X CA e (wT (den W w)) := fun hp h => ⟨h, fun _ _ => pxt_plain (mono_den W _) hp h⟩
  cases e with
  | Name x pos => exact plain rfl (sound_N c)
  | Constant v kk pos =>
    refine plain rfl ?_
    cases v with
    | int i => exact px_int
    | bool b => exact px_bl
    | none => exact px_non
    | str x => exact px_str
    | _ => exact px_no
  | Tuple es kk pos => exact plain rfl (px_tup (mono_denA W _) (sound_L ih))
  | List es pos => exact plain rfl (px_lst (mono_denA W _) (sound_L ih))
  | Dict ks vs pos =>
    refine plain rfl ?_
    cases ks with
    | nil =>
      cases vs with
      | nil => exact px_dict0
      | cons _ _ => exact px_no
    | cons kx r =>
      show PX X CA _ (den W (bif decide ((kx :: r).length ≤ 15) && ((kx :: r).all (·.isSome) && decide ((kx :: r).length = vs.length)) then _ else _))
      cases h : decide ((kx :: r).length ≤ 15) && ((kx :: r).all (·.isSome) && decide ((kx :: r).length = vs.length)) with
      | false => exact px_no
      | true =>
        rw [Bool.and_eq_true, Bool.and_eq_true] at h
        obtain ⟨h1, h2, h3⟩ := h
        exact px_disp (sound_D ih h2 (of_decide_eq_true h3)) (List.cons_ne_nil _ _) (of_decide_eq_true h1)
  | BinOp a op b pos => exact plain rfl (px_bin (mono_den W _) (mono_den W _) (ih a) (ih b))
  | Compare a ops bs pos =>
    obtain ⟨h1, h2⟩ := sound_cmp hs c a ops bs pos
    exact ⟨h1, fun _ _ => h2⟩
  | BoolOp op vs pos =>
    refine ⟨sound_B ih, fun j hj => ?_⟩
    cases j with
    | zero => cases hj
    | succ j =>
      cases vs with
      | nil => exact pxt_no
      | cons v vs => exact (sound_BT (List.cons_ne_nil _ _) fun e he => iht e j (List.all_eq_true.mp hj e he)).pt
  | UnaryOp op a pos =>
    cases op with
    | Not =>
      refine ⟨px_not (mono_den W _) (ih a), fun j hj => ?_⟩
      cases j with
      | zero => cases hj
      | succ j => exact pxt_not (mono_den W _) (iht a j hj)
    | _ => exact ⟨px_no, fun _ _ => pxt_no⟩
  | IfExp cc a b pos =>
    refine ⟨?_, fun j hj => by cases j <;> cases hj⟩
    show PX X CA _ (den W (bif tstOk n cc then _ else _))
    cases h : tstOk n cc with
    | false => exact px_no
    | true => exact px_if (mono_den W _) (mono_den W _) (mono_den W _) (iht cc n h) (ih a) (ih b)
  | Subscript a b pos => exact plain rfl (sound_ix hs c a b pos)
  | Attribute a f pos =>
    refine plain rfl ?_
    show PX X CA _ (den W (bif plainBase a then _ else _))
    cases h : plainBase a with
    | false => exact px_no
    | true => exact px_fld c.cls (mono_den W _) (ih a) h
  | Call fn args kws pos =>
    refine plain rfl ?_
    cases fn with
    | Name x p =>
      cases kws with
      | nil =>
        match args with
        | [.SetComp elt gs scope p2] => exact sound_cs hs c x p elt gs scope p2 pos
        | [] => exact sound_C c ih
        | a :: b :: r => cases a <;> exact sound_C c ih
        | [a] => cases a <;> first | exact sound_C c ih | exact sound_cs hs c x p _ _ _ _ pos
      | cons _ _ => exact px_no
    | Attribute o m apos => exact sound_M c ih
    | _ => exact px_no
  | ListComp elt gs scope pos => exact plain rfl (sound_lc hs c elt gs scope pos)
  | DictComp kx vx gs scope pos => exact plain rfl (sound_dc hs c kx vx gs scope pos)
  | _ => exact plain rfl px_no
theorem soundE : ∀ n : Nat, SoundE W tb CA k N n
  | 0 => soundE_zero
  | n + 1 => soundE_succ (soundE n)
end
end TR
set_option Elab.async false
set_option linter.all false
set_option maxRecDepth 100000
set_option maxHeartbeats 2000000
/-! TR19: the reading is sound: statements. -/
namespace TR
open PySem PySem.Spec L2
open PyProof.Rows hiding St

section
variable (tb : Tb) (N : List Str)
def isStar : Expr → Bool
  | .Starred _ _ => true
  | _ => false
def unStar : Expr → Expr
  | .Starred t _ => t
  | t => t
def erG (sc : Scope) : Nat → Expr → G
  | 0, _ => .no
  | n + 1, e => match e with
    | .Name x _ => bif isL none sc x then (match ixOf x N with
      | some i => .nm i
      | none => .no) else .no
    | .Subscript o i _ => bif notSlice i then .sub (er tb N n sc o) (er tb N n sc i) else .no
    | .Tuple es _ _ => (let gs := es.foldr (fun e r => .cons (erG sc n (unStar e)) r) .nil
      match es.findIdx? isStar with
      | none => .tup es.length gs
      | some i => .star es.length i gs)
    | _ => .no
def notTup : Expr → Bool
  | .Tuple _ _ _ => false
  | _ => true
/-- a, b = x, y by names -/
def parOk (sc : Scope) (x y : Str) (px py : Pos) (a b : Expr) : Bool :=
  (sc.names.lookup x == some .local) && ((sc.names.lookup y == some .local) && ((px.line == py.line) && ((!(x == y)) && (notStar a && (notStar b && ((!([a, b].all (foldedForSure 8))) && !([a, b].all (constantsAlone 8))))))))
/-- no plain local -/
def notLoc (sc : Scope) : Expr → Bool
  | .Name x _ => !(sc.names.lookup x == some .local)
  | _ => true
def swB (sc scope : Scope) (y : Str) (py pos : Pos) : Bool :=
  (sc.names.lookup y == some .local) && ((py.line == pos.line) && !(scope.names.any fun (n, k) => n == y && (k == .local || k == .cell)))
def erS (sc : Scope) : Nat → Stmt → S
  | 0, _ => .no
  | n + 1, st => match st with
    | .Expr e _ => bif notComp e then .x (er tb N n sc e) else .no
    | .Return e _ => (match e with
      | some e => .ret (er tb N n sc e)
      | none => .ret (.c .non))
    | .Pass _ => .pass
    | .Break _ => .brk
    | .Continue _ => .cnt
    | .If c a b _ => bif tstOk n c then .ite (er tb N n sc c) (a.foldr (fun s r => .cons (erS sc n s) r) .nil) (b.foldr (fun s r => .cons (erS sc n s) r) .nil) else .no
    | .For tg it body els _ => (match els with
      | [] => bif notSet it then .for_ (erI tb (er tb N n sc) sc tg it) (erP N none sc n tg) (body.foldr (fun s r => .cons (erS sc n s) r) .nil) else .no
      | _ => .no)
    | .AugAssign tg op e _ => (match op with
      | .Add => (match tg with
        | .Name x _ => bif isL none sc x then (match ixOf x N with
          | some i => .aug i (er tb N n sc e)
          | none => .no) else .no
        | _ => .no)
      | _ => .no)
    | .Assign tgs v _ => (match tgs with
      | [tg] => (match tg with
        | .Name x _ => bif isL none sc x then (match ixOf x N with
          | some i => (match v with
            | .SetComp _ _ _ _ => .no
            | v => .asg (.nm i) (er tb N n sc v))
          | none => .no) else .no
        | .Attribute o f _ => bif notComp v then .fld f.cps.toList (er tb N n sc o) (er tb N n sc v) else .no
        | .Subscript o i p => bif notComp v && notTup v then .asg (erG tb N sc n (.Subscript o i p)) (er tb N n sc v) else .no
        | .Tuple ts kk p => bif notComp v && (notTup v || ts.any (notLoc sc)) then .asg (erG tb N sc n (.Tuple ts kk p)) (er tb N n sc v)
          else (match v with
            | .Tuple vs _ _ => (match vs with
              | [a, b] => (match ts with
                | [.Name x px, .Name y py] => bif parOk sc x y px py a b then (match ixOf x N, ixOf y N with
                  | some i, some j => bif i == j then .no else .asg (.tup 2 (.cons (.nm i) (.cons (.nm j) .nil))) (.tup (.cons (er tb N n sc a) (.cons (er tb N n sc b) .nil)))
                  | _, _ => .no) else .no
                | _ => .no)
              | _ => .no)
            | _ => .no)
        | _ => .no)
      | _ => .no)
    | _ => .no
def erSs (sc : Scope) (n : Nat) (b : List Stmt) : S := b.foldr (fun s r => .cons (erS tb N sc n s) r) .nil
end
theorem pgs_cons' {X : Cx} {e e' : Expr} {es : List Expr} {t : TG} {u : TGs} (h1 : PG X e' t) (h2 : PGs X es u) (hs : (assignEach (e :: es) X.env).map (·.2) = assign e' X.env :: (assignEach es X.env).map (·.2)) : PGs X (e :: es) (gCons t u) := by
  refine ⟨fun pins s σ H vs us Q I r h => ?_⟩
  obtain ⟨v, vr, rfl, h⟩ := h
  cases r with
  | cons r rr =>
    rw [hs]
    refine assignInOrder_cons (thn (h1.run pins s σ H _ _ _ I r h) fun _ s1 z => ?_)
    obtain ⟨σ1, H1, I1, q1⟩ := z
    exact h2.run pins s1 σ1 H1 _ _ Q I1 rr q1
theorem each_star {e : Expr} {es : List Expr} {env : Env} : assignEach (e :: es) env = (isStar e, assign (unStar e) env) :: assignEach es env := by
  cases e <;> rfl
theorem each_idx {env : Env} : ∀ {es : List Expr}, (assignEach es env).length = es.length ∧ (assignEach es env).findIdx? (·.1) = es.findIdx? isStar
  | [] => ⟨rfl, rfl⟩
  | e :: es => by
    obtain ⟨h1, h2⟩ := each_idx (env := env) (es := es)
    rw [each_star]
    refine ⟨by rw [List.length_cons, List.length_cons, h1], ?_⟩
    rw [List.findIdx?_cons, List.findIdx?_cons, h2]
section
variable {W : Wd} {tb : Tb} {CA : ClsAt} {k : Nat} {N : List Str} {blk : Option Scope} {sc : Scope} {X : Cx} {pos : Pos}
theorem pxg_no {e : Expr} : PXG X CA e (fun _ _ _ _ => False) := ⟨fun _ _ _ _ _ _ _ _ _ q => by
  obtain ⟨_, _, _, _, _, _, _, q⟩ := q
  exact q.elim⟩
theorem pxs_no {st : Stmt} : PXS X CA st (fun _ _ _ => False) := ⟨fun _ _ _ _ _ _ q => by
  obtain ⟨_, _, _, _, _, q⟩ := q
  exact q.elim⟩
theorem pxgs_cons' {e e' : Expr} {es : List Expr} {w : Wg} {ws : Wgs} (ma : MonoG w) (mb : MonoGs ws) (h : PXG X CA e' w) (hs : PXGs X CA es ws) (he : (assignEach (e :: es) X.env).map (·.2) = assign e' X.env :: (assignEach es X.env).map (·.2)) : PXGs X CA (e :: es) (wgCons w ws) :=
  PGs.imp (pgs_cons' h hs he) fun v σ H Q q => by
    obtain ⟨m, ρ, S, ts, rs, re, rt, q⟩ := q
    cases rt with
    | nil => exact q.elim
    | @cons t ts v vs r rr =>
      refine ⟨v, vs, rfl, m, ρ, S, t, rs, re, r, ma _ _ _ _ _ (fun ρ1 S1 q => ?_) q⟩
      intro m1 H1 σ1 k1 rs1 re1
      refine ⟨m1, ρ1, S1, ts, rs1, re1, rr.mono k1, mb _ _ _ _ _ (fun ρ2 S2 q => ?_) q⟩
      intro m2 H2 σ2 k2 rs2 re2
      exact q m2 H2 σ2 (k1.trans k2) rs2 re2
theorem sound_G (c : Cok W tb CA k N none sc X) : ∀ (n : Nat) (e : Expr), PXG X CA e (denG W (erG tb N sc n e))
  | 0, e => pxg_no
  | n + 1, e => by
    cases e with
    | Name x p =>
      show PXG X CA _ (denG W (bif isL none sc x then _ else _))
      cases h : isL none sc x with
      | false => exact pxg_no
      | true =>
        show PXG X CA _ (denG W (match ixOf x N with | some i => .nm i | none => .no))
        cases hi : ixOf x N with
        | none => exact pxg_no
        | some i =>
          obtain ⟨h1, h2⟩ := isL_ok c h
          exact pxg_name (by rw [c.names]; exact c.nd) (by rw [c.names]; exact ixOf_ok hi) h1 h2
    | Subscript o i p =>
      show PXG X CA _ (denG W (bif notSlice i then _ else _))
      cases h : notSlice i with
      | false => exact pxg_no
      | true => exact pxg_sub (by have := c.hu; omega) (mono_den W _) (mono_den W _) (soundE n none sc X c o).1 (soundE n none sc X c i).1 (fun v => by cases i <;> first | rfl | cases h)
    | Tuple es kk p =>
      have go : ∀ es : List Expr, PXGs X CA es (denGs W (es.foldr (fun e r => .cons (erG tb N sc n (unStar e)) r) .nil)) := by
        intro es
        induction es with
        | nil => exact pxgs_nil
        | cons e es ih => exact pxgs_cons' (mono_denG W _) (mono_denGs W _) (sound_G c n (unStar e)) ih (by rw [each_star]; rfl)
      obtain ⟨h1, h2⟩ := each_idx (env := X.env) (es := es)
      show PXG X CA _ (denG W (match es.findIdx? isStar with | none => .tup es.length _ | some i => .star es.length i _))
      cases hi : es.findIdx? isStar with
      | none => exact pxg_tup c.calm (go es) h1 (by rw [h2, hi])
      | some i => exact pxg_star c.calm (mono_denGs W _) (go es) h1 (by rw [h2, hi])
    | _ => exact pxg_no
theorem swaps_no {v : Expr} (h : notComp v = true) (t : Option Expr) (l : Nat) (env : Env) : swapsWith v t l env = pure false := notComp_ok h t l env
theorem swappedNone {tg v : Expr} {env : Env} (h : notTup tg = true ∧ (match tg with | .List _ _ => false | _ => true) = true ∨ notTup v = true) : swappedStores [tg] v env = pure none := by
  rcases h with ⟨h1, h2⟩ | h
  · cases tg <;> first | rfl | (cases h1; done) | (cases h2; done)
  · cases v <;> first | (cases h; done) | (cases tg <;> rfl)
theorem blockFn {env : Env} (h : env.scope.kind = .function) : env.blockKind = .function := by
  unfold Env.blockKind
  rw [h]
  rfl
theorem star_match {a : Expr} (h : notStar a = true) : isStar a = false := by
  cases a <;> first | rfl | cases h
theorem par_swapped {sc : Scope} {x y : Str} {px py pt pt2 : Pos} {a b : Expr} {kt k2 : Nat} {env : Env} (hs : env.scope = sc) (hk : env.scope.kind = .function) (h : parOk sc x y px py a b = true) :
    swappedStores [.Tuple [.Name x px, .Name y py] kt pt] (.Tuple [a, b] k2 pt2) env = pure (some [x, y]) := by
  unfold parOk at h
  simp only [Bool.and_eq_true, Bool.not_eq_true', beq_iff_eq] at h
  obtain ⟨hx, hy, hl, hne, ha, hb, hf, hc⟩ := h
  have kx : env.kindOf x = some .local := by unfold Env.kindOf; rw [hs]; exact hx
  have ky : env.kindOf y = some .local := by unfold Env.kindOf; rw [hs]; exact hy
  have hxy : ¬ y = x := fun e => by rw [e] at hne; simp at hne
  have sa := star_match ha
  have sb := star_match hb
  unfold swappedStores
  simp only [blockFn hk, kx, ky, hl, List.any_cons, List.any_nil, hf, hc, List.length_cons, List.length_nil, List.filterMap_cons, List.filterMap_nil, List.head?_cons, Option.map_some, Option.getD_some, Expr.pos]
  simp [hl, hxy, List.eraseDups_cons]
  rintro (z | z)
  · exact absurd (show isStar a = true from z) (by rw [sa]; exact Bool.false_ne_true)
  · exact absurd (show isStar b = true from z) (by rw [sb]; exact Bool.false_ne_true)
theorem filterMap_short {α β : Type} {f : α → Option β} : ∀ {l : List α} {x : α}, x ∈ l → f x = none → (l.filterMap f).length < l.length
  | a :: r, x, h, e => by
    rw [List.filterMap_cons]
    have hr := List.length_filterMap_le f r
    rcases List.mem_cons.mp h with rfl | h
    · rw [e, List.length_cons]
      exact Nat.lt_succ_of_le hr
    · have := filterMap_short h e
      cases f a with
      | none => rw [List.length_cons]; exact Nat.lt_succ_of_lt this
      | some b => rw [List.length_cons, List.length_cons]; exact Nat.succ_lt_succ this
theorem swappedLoc {ts vs : List Expr} {kt k2 : Nat} {pt pt2 : Pos} {sc : Scope} {env : Env} (hs : env.scope = sc) (h : ts.any (notLoc sc) = true) : swappedStores [.Tuple ts kt pt] (.Tuple vs k2 pt2) env = pure none := by
  obtain ⟨x, hx, e⟩ := List.any_eq_true.mp h
  have hkd : ∀ y, env.kindOf y = sc.names.lookup y := fun y => by unfold Env.kindOf; rw [hs]
  unfold swappedStores
  simp only []
  split
  · rfl
  · split
    · rfl
    · split
      · rfl
      · rename_i hn
        exfalso
        apply hn
        rw [Bool.or_eq_true]
        left
        refine bne_iff_ne.mpr (Nat.ne_of_lt (filterMap_short hx ?_))
        cases x with
        | Name id pos =>
          have e : (!(sc.names.lookup id == some .local)) = true := e
          rw [Bool.not_eq_true'] at e
          show (if (env.kindOf id == some NameKind.local && _) = true then some id else none) = none
          rw [hkd, e]
          rfl
        | _ => rfl
theorem swaps_dc {kx vx : Expr} {gs : List Comprehension} {scope : Scope} {p py : Pos} {y : Str} {l : Nat} {env : Env} {sc : Scope} (hs : env.scope = sc) (hk : env.scope.kind = .function) : swapsWith (.DictComp kx vx gs scope p) (some (.Name y py)) l env = pure (swB sc scope y py p) := by
  have hkd : env.kindOf y = sc.names.lookup y := by unfold Env.kindOf; rw [hs]
  unfold swapsWith swB
  simp only [blockFn hk, hkd]
  simp [Expr.pos, Bool.and_assoc]
theorem swaps_lc {elt : Expr} {gs : List Comprehension} {scope : Scope} {p py : Pos} {y : Str} {l : Nat} {env : Env} {sc : Scope} (hs : env.scope = sc) (hk : env.scope.kind = .function) : swapsWith (.ListComp elt gs scope p) (some (.Name y py)) l env = pure (swB sc scope y py p) := by
  have hkd : env.kindOf y = sc.names.lookup y := by unfold Env.kindOf; rw [hs]
  unfold swapsWith swB
  simp only [blockFn hk, hkd]
  simp [Expr.pos, Bool.and_assoc]
end
end TR
set_option Elab.async false
set_option linter.all false
set_option maxRecDepth 100000
set_option maxHeartbeats 2000000
/-! TR20: the reading is sound: statements, bodies, functions. -/
namespace TR
open PySem PySem.Spec L2
open PyProof.Rows hiding St

section
variable {W : Wd} {tb : Tb} {CA : ClsAt} {k : Nat} {N : List Str} {sc : Scope} {X : Cx} {pos : Pos}
theorem pxss_of {f : Stmt → S} (h : ∀ s, PXS X CA s (denS W (f s))) : ∀ b : List Stmt, PXSs X CA b (denS W (b.foldr (fun s r => .cons (f s) r) .nil))
  | [] => pxss_nil
  | s :: r => pxss_cons (mono_denS W _) (mono_denS W _) (h s) (pxss_of h r)
theorem idx_ne {i j : Nat} (h : (i == j) = false) : i ≠ j := fun e => by rw [e] at h; simp at h
/-- name = e -/
theorem sound_set (c : Cok W tb CA k N none sc X) (hk : X.env.scope.kind = .function) {n : Nat} {x : Str} {px : Pos} (v : Expr) : PXS X CA (.Assign [.Name x px] v pos) (denS W (erS tb N sc (n + 1) (.Assign [.Name x px] v pos))) := by
  show PXS X CA _ (denS W (bif isL none sc x then _ else _))
  cases h : isL none sc x with
  | false => exact pxs_no
  | true =>
    show PXS X CA _ (denS W (match ixOf x N with | some i => _ | none => S.no))
    cases hi : ixOf x N with
    | none => exact pxs_no
    | some i =>
      obtain ⟨h1, h2⟩ := isL_ok c h
      have hNd : X.N.Nodup := by rw [c.names]; exact c.nd
      have hNi : X.N[i]? = some x := by rw [c.names]; exact ixOf_ok hi
      have base : swapsWith v (some (.Name x px)) pos.line X.env = pure false → PXS X CA (.Assign [.Name x px] v pos) (wsAsg (den W (er tb N n sc v)) (wgN i)) := fun hs => pxs_set (mono_den W _) hNd hNi h1 (soundE n none sc X c v).1 hs h2
      cases v with
      | SetComp _ _ _ _ => exact pxs_no
      | DictComp kx vx gs scope p =>
        have hsw := swaps_dc (kx := kx) (vx := vx) (gs := gs) (scope := scope) (p := p) (py := px) (y := x) (l := pos.line) c.scope hk
        cases hb : swB sc scope x px p with
        | false => exact base (by rw [hsw, hb])
        | true =>
          rw [hb] at hsw
          have hyl : X.env.scope.names.lookup x = some .local := by
            unfold swB at hb
            rw [Bool.and_eq_true, beq_iff_eq] at hb
            rw [c.scope]
            exact hb.1
          show PXS X CA _ (wsAsg (den W (er tb N n sc (.DictComp kx vx gs scope p))) (wgN i))
          cases n with
          | zero =>
            exact ⟨fun _ _ _ _ _ _ q => by
              obtain ⟨_, _, _, _, _, q⟩ := q
              exact False.elim q⟩
          | succ n =>
            have hs := soundE (W := W) (tb := tb) (CA := CA) (k := k) (N := N) n
            have no : ∀ {e : E}, e = .no → PXS X CA (.Assign [.Name x px] (.DictComp kx vx gs scope p) pos) (wsAsg (den W e) (wgN i)) := fun e => by
              subst e
              exact ⟨fun _ _ _ _ _ _ q => by
                obtain ⟨_, _, _, _, _, q⟩ := q
                exact False.elim q⟩
            match gs with
            | [] => exact no rfl
            | ⟨_, _, _, _⟩ :: ⟨_, _, _, _⟩ :: _ => exact no rfl
            | [⟨tg, it, ifs, a⟩] =>
              show PXS X CA _ (wsAsg (den W (bif decide (a = 0) && (notSet it && blkC N sc scope (ownOf N scope)) then _ else _)) (wgN i))
              cases h0 : decide (a = 0) && (notSet it && blkC N sc scope (ownOf N scope)) with
              | false => exact no rfl
              | true =>
                rw [Bool.and_eq_true, Bool.and_eq_true] at h0
                obtain ⟨ha, hn, hbk⟩ := h0
                have ea := of_decide_eq_true ha
                subst ea
                show PXS X CA _ (wsAsg (den W (bif (erP N (some scope) (relS scope sc) n tg).vars.all (fun i => decide (i ∈ (ownOf N scope).map (·.2))) then _ else _)) (wgN i))
                cases hv : (erP N (some scope) (relS scope sc) n tg).vars.all (fun i => decide (i ∈ (ownOf N scope).map (·.2))) with
                | false => exact no rfl
                | true =>
                  exact pxs_setDc (own := ownOf N scope) c.calm hNd hNi hyl hsw (mono_denI W _) (mono_denT W _) (mono_den W _) (mono_den W _) (fun i hi => of_decide_eq_true (List.all_eq_true.mp hv i hi)) (sound_I c fun e => (hs none sc X c e).1) (by rw [c.names, c.scope]; exact blkOk_by hbk)
                    (fun s H C cl fp => sound_P (c.inB s H scope C cl fp) n tg) (fun s H C cl fp => sound_T fun j e hj => (hs _ _ _ (c.inB s H scope C cl fp) e).2 j hj) (fun s H C cl fp => (hs _ _ _ (c.inB s H scope C cl fp) kx).1) (fun s H C cl fp => (hs _ _ _ (c.inB s H scope C cl fp) vx).1) (notSet_ok hn)
      | ListComp elt gs scope p =>
        have hsw := swaps_lc (elt := elt) (gs := gs) (scope := scope) (p := p) (py := px) (y := x) (l := pos.line) c.scope hk
        cases hb : swB sc scope x px p with
        | false => exact base (by rw [hsw, hb])
        | true =>
          rw [hb] at hsw
          have hyl : X.env.scope.names.lookup x = some .local := by
            unfold swB at hb
            rw [Bool.and_eq_true, beq_iff_eq] at hb
            rw [c.scope]
            exact hb.1
          show PXS X CA _ (wsAsg (den W (er tb N n sc (.ListComp elt gs scope p))) (wgN i))
          cases n with
          | zero =>
            exact ⟨fun _ _ _ _ _ _ q => by
              obtain ⟨_, _, _, _, _, q⟩ := q
              exact False.elim q⟩
          | succ n =>
            have hs := soundE (W := W) (tb := tb) (CA := CA) (k := k) (N := N) n
            have no : ∀ {e : E}, e = .no → PXS X CA (.Assign [.Name x px] (.ListComp elt gs scope p) pos) (wsAsg (den W e) (wgN i)) := fun e => by
              subst e
              exact ⟨fun _ _ _ _ _ _ q => by
                obtain ⟨_, _, _, _, _, q⟩ := q
                exact False.elim q⟩
            match gs with
            | [] => exact no rfl
            | ⟨_, _, _, _⟩ :: ⟨_, _, _, _⟩ :: ⟨_, _, _, _⟩ :: _ => exact no rfl
            | [⟨tg, it, ifs, a⟩, ⟨tg1, it1, ifs1, a1⟩] =>
              show PXS X CA _ (wsAsg (den W (bif (decide (a = 0) && decide (a1 = 0)) && ((notSet it && notSet it1) && blkC N sc scope (ownOf N scope)) then _ else _)) (wgN i))
              cases h0 : (decide (a = 0) && decide (a1 = 0)) && ((notSet it && notSet it1) && blkC N sc scope (ownOf N scope)) with
              | false => exact no rfl
              | true =>
                rw [Bool.and_eq_true, Bool.and_eq_true, Bool.and_eq_true, Bool.and_eq_true] at h0
                obtain ⟨⟨ha, ha1⟩, ⟨hn, hn1⟩, hbk⟩ := h0
                have ea := of_decide_eq_true ha
                have ea1 := of_decide_eq_true ha1
                subst ea
                subst ea1
                show PXS X CA _ (wsAsg (den W (bif (erP N (some scope) (relS scope sc) n tg).vars.all (fun i => decide (i ∈ (ownOf N scope).map (·.2))) && (erP N (some scope) (relS scope sc) n tg1).vars.all (fun i => decide (i ∈ (ownOf N scope).map (·.2))) then _ else _)) (wgN i))
                cases hv : (erP N (some scope) (relS scope sc) n tg).vars.all (fun i => decide (i ∈ (ownOf N scope).map (·.2))) && (erP N (some scope) (relS scope sc) n tg1).vars.all (fun i => decide (i ∈ (ownOf N scope).map (·.2))) with
                | false => exact no rfl
                | true =>
                  rw [Bool.and_eq_true] at hv
                  exact pxs_setLc2 (own := ownOf N scope) c.calm hNd hNi hyl hsw (mono_denI W _) (mono_denT W _) (mono_denI W _) (mono_denT W _) (mono_den W _) (fun i hi => of_decide_eq_true (List.all_eq_true.mp hv.1 i hi)) (fun i hi => of_decide_eq_true (List.all_eq_true.mp hv.2 i hi))
                    (sound_I c fun e => (hs none sc X c e).1) (by rw [c.names, c.scope]; exact blkOk_by hbk)
                    (fun s H C cl fp => sound_P (c.inB s H scope C cl fp) n tg) (fun s H C cl fp => sound_T fun j e hj => (hs _ _ _ (c.inB s H scope C cl fp) e).2 j hj)
                    (fun s H C cl fp => sound_I (c.inB s H scope C cl fp) fun e => (hs _ _ _ (c.inB s H scope C cl fp) e).1) (fun s H C cl fp => sound_P (c.inB s H scope C cl fp) n tg1)
                    (fun s H C cl fp => sound_T fun j e hj => (hs _ _ _ (c.inB s H scope C cl fp) e).2 j hj) (fun s H C cl fp => (hs _ _ _ (c.inB s H scope C cl fp) elt).1) (notSet_ok hn) (fun env x => notSet_ok hn1 x)
            | [⟨tg, it, ifs, a⟩] =>
              show PXS X CA _ (wsAsg (den W (bif decide (a = 0) && (notSet it && blkC N sc scope (ownOf N scope)) then _ else _)) (wgN i))
              cases h0 : decide (a = 0) && (notSet it && blkC N sc scope (ownOf N scope)) with
              | false => exact no rfl
              | true =>
                rw [Bool.and_eq_true, Bool.and_eq_true] at h0
                obtain ⟨ha, hn, hbk⟩ := h0
                have ea := of_decide_eq_true ha
                subst ea
                show PXS X CA _ (wsAsg (den W (bif (erP N (some scope) (relS scope sc) n tg).vars.all (fun i => decide (i ∈ (ownOf N scope).map (·.2))) then _ else _)) (wgN i))
                cases hv : (erP N (some scope) (relS scope sc) n tg).vars.all (fun i => decide (i ∈ (ownOf N scope).map (·.2))) with
                | false => exact no rfl
                | true =>
                  exact pxs_setLc (own := ownOf N scope) c.calm hNd hNi hyl hsw (mono_denI W _) (mono_denT W _) (mono_den W _) (fun i hi => of_decide_eq_true (List.all_eq_true.mp hv i hi)) (sound_I c fun e => (hs none sc X c e).1) (by rw [c.names, c.scope]; exact blkOk_by hbk)
                    (fun s H C cl fp => sound_P (c.inB s H scope C cl fp) n tg) (fun s H C cl fp => sound_T fun j e hj => (hs _ _ _ (c.inB s H scope C cl fp) e).2 j hj) (fun s H C cl fp => (hs _ _ _ (c.inB s H scope C cl fp) elt).1) (notSet_ok hn)
      | _ => exact base rfl
theorem sound_asg (c : Cok W tb CA k N none sc X) {n : Nat} {tg v : Expr} (h1 : notComp v = true) (h2 : swappedStores [tg] v X.env = pure none) (h3 : notStar tg = true) : PXS X CA (.Assign [tg] v pos) (denS W (.asg (erG tb N sc n tg) (er tb N n sc v))) :=
  pxs_asg (mono_den W _) (mono_denG W _) (soundE n none sc X c v).1 (sound_G c n tg) (swaps_no h1 _ _ _) h2 (by rw [assign_each h3]; rfl)
theorem sound_S (c : Cok W tb CA k N none sc X) (hk : X.env.scope.kind = .function) (hp : PassesOwn (model X.prog X.w) X.A X.env X.xe) : ∀ (n : Nat) (st : Stmt), PXS X CA st (denS W (erS tb N sc n st))
  | 0, _ => pxs_no
  | n + 1, st => by
    have ih := sound_S c hk hp n
    have ie := fun e => (soundE (W := W) (tb := tb) (CA := CA) (k := k) (N := N) n none sc X c e).1
    cases st with
    | Expr e p =>
      show PXS X CA _ (denS W (bif notComp e then _ else _))
      cases h : notComp e with
      | false => exact pxs_no
      | true => exact pxs_expr (mono_den W _) (.inr trivial) (ie e) h
    | Return e p =>
      cases e with
      | some e => exact pxs_ret (mono_den W _) (ie e)
      | none =>
        exact PS.imp ps_retN fun D σ H q => by
          obtain ⟨m, ρ, S, rs, re, q⟩ := q
          exact q m H _ .rfl' rs .non
    | Pass p => exact pxs_pass
    | Break p => exact pxs_break
    | Continue p => exact pxs_continue
    | If cc a b p =>
      show PXS X CA _ (denS W (bif tstOk n cc then _ else _))
      cases h : tstOk n cc with
      | false => exact pxs_no
      | true => exact pxs_if (mono_den W _) (mono_denS W _) (mono_denS W _) ((soundE n none sc X c cc).2 n h) (pxss_of ih a) (pxss_of ih b)
    | For tg it body els p =>
      cases els with
      | cons _ _ => exact pxs_no
      | nil =>
        show PXS X CA _ (denS W (bif notSet it then _ else _))
        cases h : notSet it with
        | false => exact pxs_no
        | true => exact pxs_for (mono_denI W _) (mono_denS W _) hp c.calm (sound_I c ie) (sound_P c n tg) (pxss_of ih body) (notSet_ok h)
    | AugAssign tg op e p =>
      cases op with
      | Add =>
        cases tg with
        | Name x px =>
          show PXS X CA _ (denS W (bif isL none sc x then _ else _))
          cases h : isL none sc x with
          | false => exact pxs_no
          | true =>
            show PXS X CA _ (denS W (match ixOf x N with | some i => _ | none => S.no))
            cases hi : ixOf x N with
            | none => exact pxs_no
            | some i =>
              obtain ⟨h1, h2⟩ := isL_ok c h
              exact pxs_aug (mono_den W _) (by rw [c.names]; exact c.nd) (by rw [c.names]; exact ixOf_ok hi) h1 (ie e) h2
        | _ => exact pxs_no
      | _ => exact pxs_no
    | Assign tgs v p =>
      match tgs with
      | [] => exact pxs_no
      | tg :: _ :: _ => cases tg <;> exact pxs_no
      | [tg] =>
        cases tg with
        | Name x px => exact sound_set c hk v
        | Attribute o f p2 =>
          show PXS X CA _ (denS W (bif notComp v then _ else _))
          cases h : notComp v with
          | false => exact pxs_no
          | true => exact pxs_fld c.cls (mono_den W _) (mono_den W _) (ie o) (ie v) (swaps_no h _ _ _)
        | Subscript o i p2 =>
          show PXS X CA _ (denS W (bif notComp v && notTup v then _ else _))
          cases h : notComp v && notTup v with
          | false => exact pxs_no
          | true =>
            rw [Bool.and_eq_true] at h
            exact sound_asg c h.1 (swappedNone (.inr h.2)) rfl
        | Tuple ts kk p2 =>
          show PXS X CA _ (denS W (bif notComp v && (notTup v || ts.any (notLoc sc)) then _ else _))
          cases h : notComp v && (notTup v || ts.any (notLoc sc)) with
          | true =>
            rw [Bool.and_eq_true, Bool.or_eq_true] at h
            obtain ⟨h1, h2⟩ := h
            refine sound_asg c h1 ?_ rfl
            rcases h2 with h2 | h2
            · exact swappedNone (.inr h2)
            · cases hv : notTup v with
              | true => exact swappedNone (.inr hv)
              | false =>
                cases v with
                | Tuple vs k2 p3 => exact swappedLoc c.scope h2
                | _ => cases hv
          | false =>
            cases v with
            | Tuple vs k2 p3 =>
              match vs with
              | [] => exact pxs_no
              | [_] => exact pxs_no
              | _ :: _ :: _ :: _ => exact pxs_no
              | [a, b] =>
                match ts with
                | [] => exact pxs_no
                | [t1] => cases t1 <;> exact pxs_no
                | t1 :: t2 :: t3 :: tr =>
                  cases t1 with
                  | Name x px => cases t2 <;> exact pxs_no
                  | _ => exact pxs_no
                | [t1, t2] =>
                  cases t1 with
                  | Name x px =>
                    cases t2 with
                    | Name y py =>
                      show PXS X CA _ (denS W (bif parOk sc x y px py a b then _ else _))
                      cases h : parOk sc x y px py a b with
                      | false => exact pxs_no
                      | true =>
                        show PXS X CA _ (denS W (match ixOf x N, ixOf y N with | some i, some j => _ | _, _ => S.no))
                        cases hi : ixOf x N with
                        | none => exact pxs_no
                        | some i =>
                          cases hj : ixOf y N with
                          | none => exact pxs_no
                          | some j =>
                            show PXS X CA _ (denS W (bif i == j then _ else _))
                            cases hij : i == j with
                            | true => exact pxs_no
                            | false =>
                              have h0 := h
                              unfold parOk at h
                              simp only [Bool.and_eq_true, Bool.not_eq_true', beq_iff_eq] at h
                              obtain ⟨hx, hy, _, _, ha, hb, _, _⟩ := h
                              exact pxs_par (mono_den W _) (mono_den W _) c.calm (by rw [c.names]; exact c.nd) (by rw [c.names]; exact ixOf_ok hi) (by rw [c.names]; exact ixOf_ok hj) (idx_ne hij) (by rw [c.scope]; exact hx) (by rw [c.scope]; exact hy) (ie a) (ie b) (star_cons ha) (star_cons hb) (par_swapped c.scope hk h0)
                    | _ => exact pxs_no
                  | _ => exact pxs_no
            | _ => exact pxs_no
        | _ => exact pxs_no
    | _ => exact pxs_no
end
end TR
set_option Elab.async false
set_option linter.all false
set_option maxRecDepth 100000
set_option maxHeartbeats 2000000
/-! TR21: all functions of a text keep their contracts. -/
namespace TR
open PySem PySem.Spec L2
open PyProof.Rows hiding St

/-- a look at the names of a def's scope -/
def scOk (N P : List Str) (sc : Scope) : Bool := (match sc.kind with
  | .function => true
  | _ => false) && ((!sc.isCoroutine && !sc.isGenerator) && (decide N.Nodup && (decide (N.take P.length = P) && (P.all (isL none sc) && sc.names.all fun y => match y.2 with
  | .free => false
  | _ => true))))
theorem scope_by {N P : List Str} {sc : Scope} (h : scOk N P sc = true) : FnScope N P sc := by
  unfold scOk at h
  simp only [Bool.and_eq_true, Bool.not_eq_true', decide_eq_true_eq, List.all_eq_true] at h
  obtain ⟨h1, ⟨h2, h3⟩, h4, h5, h6, h7⟩ := h
  refine ⟨?_, h2, h3, h4, h5, fun x hx => ?_, fun y hy e => ?_⟩
  · split at h1
    · assumption
    · cases h1
  · have := h6 x hx
    unfold isL at this
    split at this
    · exact .inl (by assumption)
    · exact .inr (by assumption)
    · cases this
  · have := h7 y hy
    rw [e] at this
    cases this
structure Bs where
  P : Program
  w : World
  K : PySem.W.Frag
  mg : Str → Option Value
  base : Heap
/-- one function of the text: its datum, its parameters, its slots, its number, its body read -/
structure Fn where
  dd : He.DefD
  ps : List Str
  N : List Str
  fid : Nat
  b : S
abbrev FunF (K : PySem.W.Frag) (F : Fn) (fd : FuncData) : Prop := FunD K F.dd.name F.dd.qual F.dd.params F.dd.body F.dd.scope (F.dd.dvs K) (F.dd.kws K) (He.fAd K F.dd.at_) fd
def BindOk (K : PySem.W.Frag) (F : Fn) (dts : List T) : Prop := ∀ fd, FunF K F fd → ∃ (ds : List Value) (dvs : List V), Binds K fd F.ps ds ∧ Vals dvs ds ∧ ∀ H m, RelTs K H m dts dvs
def KBindOk (K : PySem.W.Frag) (F : Fn) (n : Nat) (ks : List Str) : Prop := ∀ fd, FunF K F fd → KBn K fd F.ps n ks (fun us ws => us ++ ws) (fun vs zs => vs ++ zs)
def FnSt (B : Bs) (at_ : CAt) (j : Nat) (co : Co) (F : Fn) : Prop := ∃ fd, FunF B.K F fd ∧ FnOk B.P B.w B.K B.mg B.base CX0 j (He.fAd B.K F.dd.at_) fd F.ps (liftSp B.K at_ co)
def StG (B : Bs) (at_ : CAt) (L : List Fn) (p : Str × GE) : Prop := match p.2 with
  | .fn g alts => ∃ F ∈ L, F.fid = g ∧ B.mg p.1 = some (.ref (He.fAd B.K F.dd.at_)) ∧ ∀ q ∈ alts, BindOk B.K F q.2
  | .cls c g alts => ∃ F ∈ L, F.fid = g ∧ ∃ C, at_ c = some C ∧ Mk B.K C (He.fAd B.K F.dd.at_) ∧ B.mg p.1 = some (.ref C) ∧ ∀ q ∈ alts, BindOk B.K F q.2
  | .con t => ∃ v u, B.mg p.1 = some u ∧ RelV v u ∧ ∀ H m, RelT B.K H m t v
  | .blt => B.mg p.1 = none
def StM (B : Bs) (at_ : CAt) (L : List Fn) (p : Str × ME) : Prop := ∃ F ∈ L, F.fid = p.2.f ∧ ∃ C, at_ p.2.c = some C ∧ Cls B.K C ∧ Meth B.K C p.1 (He.fAd B.K F.dd.at_) ∧ (∀ q ∈ p.2.alts, BindOk B.K F q.2) ∧ ∀ q ∈ p.2.kalts, KBindOk B.K F (q.1 + 1) q.2
/-- what a law's text has -/
structure Lay (B : Bs) (at_ : CAt) (noat : List Nat → List Nat → Bool) (tb : Tb) (L : List Fn) : Prop where
  fns : ∀ F ∈ L, ∃ fd, FunF B.K F fd
  scs : ∀ F ∈ L, scOk F.N F.ps F.dd.scope = true ∧ erSs tb F.N F.dd.scope 60 F.dd.body = F.b
  gl : ∀ p ∈ tb.G, StG B at_ L p
  ml : ∀ p ∈ tb.M, StM B at_ L p
  cls : ∀ m0 H0, ClsOk B.K ⟨at_, m0, H0⟩ noat
/-- the slots at a body's start -/
def ev0 (N : List Str) (ts : List T) : Ev := ts.map some ++ List.replicate (N.length - ts.length) none
theorem relE_start {K : PySem.W.Frag} {H : Hp} {m : List Addr} {N : List Str} {ts : List T} {vs : List V} (r : RelTs K H m ts vs) : RelE K H m (ev0 N ts) (L2.start N vs) := by
  unfold ev0 L2.start
  rw [r.length]
  generalize N.length - vs.length = n
  have base : ∀ n : Nat, RelE K H m (List.replicate n none) (List.replicate n none) := fun n => by
    induction n with
    | zero => exact .nil
    | succ n ih => exact .cons trivial ih
  have go : ∀ {ts : List T} {vs : List V}, RelTs K H m ts vs → RelE K H m (ts.map some ++ List.replicate n none) (vs.map some ++ List.replicate n none) := by
    intro ts
    induction ts with
    | nil => intro vs r; cases r; exact base n
    | cons t ts ih =>
      intro vs r
      cases r with
      | cons h r => exact .cons h (ih r)
  exact go r
theorem FnOk.void {P : Program} {w : World} {K : PySem.W.Frag} {mg : Str → Option Value} {base : Heap} {k : Nat} {f : Addr} {fd : FuncData} {ps : List Str} {at_ : CAt} {n : Nat} : FnOk P w K mg base CX0 k f fd ps (liftSp K at_ (Co.no n)) :=
  ⟨fun vs H Q E h => by
    obtain ⟨_, _, _, _, _, _, h⟩ := h
    exact h.elim, fun A outer s H args us vs Q E _ _ _ _ h => by
    obtain ⟨_, _, _, _, _, _, h⟩ := h
    exact h.elim⟩
/-- all bodies keep their contracts, by those of the two levels below -/
def Steps (Γ : Nat → Nat → Co) (noat : List Nat → List Nat → Bool) (L : List Fn) : Prop := ∀ F ∈ L, ∀ j, (Γ (j + 2) F.fid).n = F.ps.length ∧
  ∀ ts S Q, ts.length = F.ps.length → (Γ (j + 2) F.fid).run ts S Q → denS ⟨Γ (j + 1), Γ j, noat⟩ F.b { nx := fun _ S => Q .non S, rt := Q } (ev0 F.N ts) S
section
variable {B : Bs} {at_ : CAt} {noat : List Nat → List Nat → Bool} {tb : Tb} {L : List Fn} {Γ : Nat → Nat → Co}
theorem cok_of (Y : Lay B at_ noat tb L) {j : Nat} (h1 : ∀ F ∈ L, FnSt B at_ (j + 1) (Γ (j + 1) F.fid) F) (h0 : ∀ F ∈ L, FnSt B at_ j (Γ j F.fid) F) {F : Fn} (hF : F ∈ L) {cdv : Value} {A : Around} {outer : List Env} {s : Shared} {H : Hp} {E : XK} {m0 : List Addr} {H0 : Hp}
    (hr : Room (j + 1) (A.deeper (envOfC F.dd.qual F.dd.scope s.heap.objs.size (He.fAd B.K F.dd.at_) cdv))) :
    Cok ⟨Γ (j + 1), Γ j, noat⟩ tb ⟨at_, m0, H0⟩ j F.N none F.dd.scope (cxOf CX0 B.P B.w B.K B.mg B.base F.N F.dd.qual F.dd.scope (He.fAd B.K F.dd.at_) cdv A outer s H E).nox where
  names := rfl
  nd := (scope_by (Y.scs F hF).1).nd
  scope := rfl
  fnk := fun _ _ _ => rfl
  calm := rfl
  room := hr
  gl := fun p hp => by
    have g := Y.gl p hp
    unfold StG at g
    unfold GOk
    split <;> rename_i e <;> simp only [e] at g
    · obtain ⟨F, hF, rfl, hm, hb⟩ := g
      intro q hq
      obtain ⟨fd, FF, ok⟩ := h1 F hF
      obtain ⟨ds, dvs, b1, b2, b3⟩ := hb q hq fd FF
      exact ⟨_, fd, F.ps, ds, dvs, ok, hm, FF.kp, b1, b2, b3⟩
    · obtain ⟨F, hF, rfl, C, hC, M, hm, hb⟩ := g
      intro q hq
      obtain ⟨fd, FF, ok⟩ := h0 F hF
      obtain ⟨ds, dvs, b1, b2, b3⟩ := hb q hq fd FF
      exact ⟨C, _, fd, F.ps, ds, dvs, hC, M, ok, hm, b1, b2, b3⟩
    · exact g
    · exact g
  ml := fun p hp => by
    obtain ⟨F, hF, e, C, hC, cl, me, hb, hk⟩ := Y.ml p hp
    obtain ⟨fd, FF, ok⟩ := h1 F hF
    rw [e] at ok
    refine ⟨fun q hq => ?_, fun q hq => ?_⟩
    · obtain ⟨ds, dvs, b1, b2, b3⟩ := hb q hq fd FF
      exact ⟨C, _, fd, F.ps, ds, dvs, hC, cl, me, ok, b1, b2, b3⟩
    · exact ⟨C, _, fd, F.ps, hC, cl, me, ok, hk q hq fd FF⟩
  cls := Y.cls m0 H0
theorem good_step (Y : Lay B at_ noat tb L) (hS : Steps Γ noat L) {j : Nat} (h1 : ∀ F ∈ L, FnSt B at_ (j + 1) (Γ (j + 1) F.fid) F) (h0 : ∀ F ∈ L, FnSt B at_ j (Γ j F.fid) F) : ∀ F ∈ L, FnSt B at_ (j + 2) (Γ (j + 2) F.fid) F := by
  intro F hF
  obtain ⟨fd, FF⟩ := Y.fns F hF
  obtain ⟨hsc, her⟩ := Y.scs F hF
  have SC := scope_by hsc
  obtain ⟨hn, st⟩ := hS F hF j
  refine ⟨fd, FF, FunD.ok FF SC (fun vs H Q E h => h.1.trans hn) fun cdv A outer s H vs Q E hr h => ?_⟩
  obtain ⟨hl, m, S, ts, rs, rt, h⟩ := h
  have hd := st ts S _ (by rw [rt.length]; exact hl.trans hn) h
  have ck := cok_of (Γ := Γ) (E := E) (m0 := m) (H0 := H) (s := s) (H := H) (outer := outer) Y h1 h0 hF hr
  refine ⟨_, PSs.nox (pxss_of (CA := ⟨at_, m, H⟩) (sound_S ck SC.kind PassesOwn.never 60) F.dd.body), m, ev0 F.N ts, S, rs, relE_start rt, ?_⟩
  rw [show (F.dd.body.foldr (fun s r => TR.S.cons (erS tb F.N F.dd.scope 60 s) r) TR.S.nil) = F.b from her]
  refine (fun D' (le : En.Le _ D') => mono_denS _ F.b _ D' _ _ le hd) _ ⟨fun ρ S q => ?_, fun t S q => q, fun _ _ q => False.elim q, fun _ _ q => False.elim q⟩
  intro m' H' σ' k' rs' re'
  exact q m' H' .non k' rs' .non
theorem good (Y : Lay B at_ noat tb L) (hS : Steps Γ noat L) (z0 : ∀ f, ∃ n, Γ 0 f = Co.no n) (z1 : ∀ f, ∃ n, Γ 1 f = Co.no n) : ∀ j, (∀ F ∈ L, FnSt B at_ j (Γ j F.fid) F) ∧ ∀ F ∈ L, FnSt B at_ (j + 1) (Γ (j + 1) F.fid) F
  | 0 => ⟨fun F hF => by
      obtain ⟨fd, FF⟩ := Y.fns F hF
      obtain ⟨n, e⟩ := z0 F.fid
      rw [e]
      exact ⟨fd, FF, FnOk.void⟩, fun F hF => by
      obtain ⟨fd, FF⟩ := Y.fns F hF
      obtain ⟨n, e⟩ := z1 F.fid
      rw [e]
      exact ⟨fd, FF, FnOk.void⟩⟩
  | j + 1 => by
    obtain ⟨h0, h1⟩ := good Y hS z0 z1 j
    exact ⟨h1, good_step Y hS h1 h0⟩
end
end TR
set_option Elab.async false
set_option linter.all false
set_option maxRecDepth 100000
set_option maxHeartbeats 2000000
/-! TR22: tools for plain proofs: contracts by pre and post, what changes, loops. -/
namespace TR
open PySem PySem.Spec L2
open PyProof.Rows hiding St

/-! ### contracts -/
def Co.of (n : Nat) {A : Type} (args : A → List T) (pre : A → Sta → Prop) (post : A → Sta → T → Sta → Prop) : Co :=
  ⟨n, fun ts S Q => ∃ a, ts = args a ∧ pre a S ∧ ∀ r S', post a S r S' → Q r S', fun _ _ _ _ h q => by
    obtain ⟨a, e, p, q⟩ := q
    exact ⟨a, e, p, fun r S' z => h _ _ (q r S' z)⟩⟩
/-- contracts by depth: g j f at level j + 2 -/
def lev (g : Nat → Nat → Co) : Nat → Nat → Co
  | 0, f => Co.no (g 0 f).n
  | 1, f => Co.no (g 0 f).n
  | k + 2, f => g k f
/-! ### what changes -/
def ck : Option Cell → Nat
  | none => 0
  | some (.lst _) => 1
  | some (.dct _) => 2
  | some (.ins _ _) => 3
structure Ch (w : Nat → Prop) (S S' : Sta) : Prop where
  len : S.length ≤ S'.length
  at_ : ∀ i, i < S.length → ¬ w i → S'[i]? = S[i]?
  kd : ∀ i, i < S.length → ck S'[i]? = ck S[i]?
abbrev Ex (S S' : Sta) : Prop := Ch (fun _ => False) S S'
section
variable {w w' : Nat → Prop} {S S' S'' : Sta}
theorem Ch.rfl' : Ch w S S := ⟨Nat.le_refl _, fun _ _ _ => rfl, fun _ _ => rfl⟩
theorem Ch.trans (a : Ch w S S') (b : Ch w' S' S'') (h : ∀ i, i < S.length → w' i → w i) : Ch w S S'' :=
  ⟨Nat.le_trans a.len b.len, fun i hi n => (b.at_ i (Nat.lt_of_lt_of_le hi a.len) fun z => n (h i hi z)).trans (a.at_ i hi n), fun i hi => (b.kd i (Nat.lt_of_lt_of_le hi a.len)).trans (a.kd i hi)⟩
theorem Ch.mono (a : Ch w S S') (h : ∀ i, i < S.length → w i → w' i) : Ch w' S S' := ⟨a.len, fun i hi n => a.at_ i hi fun z => n (h i hi z), a.kd⟩
theorem Ch.app {G : Sta} : Ch w S (S ++ G) := ⟨by simp, fun i hi _ => List.getElem?_append_left hi, fun i hi => by rw [List.getElem?_append_left hi]⟩
theorem Ch.set {j : Nat} {c : Cell} (hj : j < S.length → w j) (hk : ck (some c) = ck S[j]?) : Ch w S (S.set j c) :=
  ⟨by simp, fun i hi n => List.getElem?_set_ne fun e => n (by subst e; exact hj hi), fun i hi => by
    by_cases e : j = i
    · subst e
      rw [List.getElem?_set_self hi]
      exact hk
    · rw [List.getElem?_set_ne e]⟩
theorem Ch.get (a : Ch w S S') {i : Nat} {c : Cell} (e : S[i]? = some c) (n : ¬ w i) : S'[i]? = some c := by
  rw [a.at_ i (List.getElem?_eq_some_iff.mp e).1 n]; exact e
theorem Ex.get (a : Ex S S') {i : Nat} {c : Cell} (e : S[i]? = some c) : S'[i]? = some c := Ch.get a e id
theorem Ex.trans' (a : Ex S S') (b : Ex S' S'') : Ex S S'' := Ch.trans a b fun _ _ z => z
theorem Ex.ch (a : Ex S S') : Ch w S S' := Ch.mono a fun _ _ z => z.elim
end
theorem lt_of_some {S : Sta} {i : Nat} {c : Cell} (e : S[i]? = some c) : i < S.length := (List.getElem?_eq_some_iff.mp e).1
theorem get_app {S G : Sta} {i : Nat} {c : Cell} (e : S[i]? = some c) : (S ++ G)[i]? = some c := by rw [List.getElem?_append_left (lt_of_some e)]; exact e
theorem get_new {S : Sta} {c : Cell} : (S ++ [c])[S.length]? = some c := by simp
theorem get_set {S : Sta} {i : Nat} {c d : Cell} (e : S[i]? = some d) : (S.set i c)[i]? = some c := List.getElem?_set_self (lt_of_some e)
/-! all parts have a type -/
mutual
def wf (S : Sta) : T → Bool
  | .obj i => match ck S[i]? with
    | 1 => true
    | 2 => true
    | _ => false
  | .tup xs => decide (xs.length ≤ 16777216) && wfs S xs
  | .non => true
  | .bl _ => true
  | .int _ => true
  | .str x => decide (x.length ≤ 16777216)
  | .frz _ => true
def wfs (S : Sta) : List T → Bool
  | [] => true
  | t :: ts => wf S t && wfs S ts
end
theorem obj_lt {S : Sta} {i : Nat} (h : wf S (.obj i) = true) : i < S.length := by
  unfold wf at h
  cases e : S[i]? with
  | none => rw [e] at h; cases h
  | some c => exact lt_of_some e
mutual
theorem wf_mono {w : Nat → Prop} {S S' : Sta} (a : Ch w S S') : ∀ {t : T}, wf S t = true → wf S' t = true
  | .obj i, h => by
    have hi := obj_lt h
    unfold wf at h ⊢
    rw [a.kd i hi]
    exact h
  | .tup xs, h => by
    unfold wf at h ⊢
    rw [Bool.and_eq_true] at h ⊢
    exact ⟨h.1, wfs_mono a h.2⟩
  | .non, _ => rfl
  | .bl _, _ => rfl
  | .int _, _ => rfl
  | .str _, h => h
  | .frz _, _ => rfl
theorem wfs_mono {w : Nat → Prop} {S S' : Sta} (a : Ch w S S') : ∀ {ts : List T}, wfs S ts = true → wfs S' ts = true
  | [], _ => rfl
  | t :: ts, h => by
    unfold wfs at h ⊢
    rw [Bool.and_eq_true] at h ⊢
    exact ⟨wf_mono a h.1, wfs_mono a h.2⟩
end
theorem wf_tup {S : Sta} {xs : List T} : wf S (.tup xs) = true ↔ xs.length ≤ 16777216 ∧ wfs S xs = true := by
  unfold wf
  rw [Bool.and_eq_true, decide_eq_true_eq]
theorem wfs_mem {S : Sta} : ∀ {ts : List T} {t : T}, wfs S ts = true → t ∈ ts → wf S t = true
  | u :: ts, t, h, m => by
    unfold wfs at h
    rw [Bool.and_eq_true] at h
    rcases List.mem_cons.mp m with rfl | m
    · exact h.1
    · exact wfs_mem h.2 m
theorem wfs_of {S : Sta} : ∀ {ts : List T}, (∀ t ∈ ts, wf S t = true) → wfs S ts = true
  | [], _ => rfl
  | t :: ts, h => by
    unfold wfs
    rw [Bool.and_eq_true]
    exact ⟨h t List.mem_cons_self, wfs_of fun u hu => h u (List.mem_cons_of_mem _ hu)⟩
theorem tyOf_wf {S : Sta} {t : T} (h : wf S t = true) : ∃ a, tyOf S t = some a := by
  cases t with
  | obj i =>
    unfold wf at h
    cases e : S[i]? with
    | none => rw [e] at h; cases h
    | some c =>
      rw [e] at h
      cases c with
      | lst _ => exact ⟨.list, by simp only [tyOf, e]⟩
      | dct _ => exact ⟨.dict, by simp only [tyOf, e]⟩
      | ins _ _ => cases h
  | _ => exact ⟨_, rfl⟩
/-! ### loops -/
theorem forW_by {g : Sta → Prop} {p : Pat} {wb : Ws} {D : En} {xs : List T} {ρ : Ev} {S : Sta} (Inv : Nat → Ev → Sta → Prop) (h0 : Inv 0 ρ S) (hg : ∀ i ρ S, Inv i ρ S → g S)
    (hs : ∀ i x ρ S, xs[i]? = some x → Inv i ρ S → ∃ ρ1, bindP p x S ρ = some ρ1 ∧ wb { nx := Inv (i + 1), rt := D.rt, bk := D.nx, ct := Inv (i + 1) } ρ1 S) (he : ∀ ρ S, Inv xs.length ρ S → D.nx ρ S) (mb : MonoS wb) : forW g p wb D xs ρ S := by
  have go : ∀ (ys : List T) (i : Nat) (ρ : Ev) (S : Sta), i + ys.length = xs.length → xs.drop i = ys → Inv i ρ S → forW g p wb D ys ρ S := by
    intro ys
    induction ys with
    | nil =>
      intro i ρ S hl hd h
      have : i = xs.length := by simpa using hl
      subst this
      exact ⟨hg _ _ _ h, he _ _ h⟩
    | cons y ys ih =>
      intro i ρ S hl hd h
      rw [List.length_cons] at hl
      have hi : i < xs.length := by omega
      rw [List.drop_eq_getElem_cons hi] at hd
      injection hd with h1 h2
      have e : xs[i]? = some y := by rw [List.getElem?_eq_getElem hi, h1]
      obtain ⟨ρ1, hb, q⟩ := hs i y ρ S e h
      have step : ∀ ρ S, Inv (i + 1) ρ S → forW g p wb D ys ρ S := fun ρ S h => ih (i + 1) ρ S (by omega) h2 h
      exact ⟨hg _ _ _ h, ρ1, hb, mb { nx := Inv (i + 1), rt := D.rt, bk := D.nx, ct := Inv (i + 1) } _ _ _ ⟨step, fun _ _ q => q, fun _ _ q => q, step⟩ q⟩
  exact go xs 0 ρ S (by simp) rfl h0
theorem lcW_by {g : Sta → Prop} {p : Pat} {tt : Wt} {we : Wp} {ρ0 : Ev} {R : List T → Sta → Prop} {xs : List T} {S : Sta} (Inv : Nat → List T → Sta → Prop) (h0 : Inv 0 [] S) (hg : ∀ i acc S, Inv i acc S → g S)
    (hs : ∀ i x acc S, xs[i]? = some x → Inv i acc S → ∃ ρ1, bindP p x S ρ0 = some ρ1 ∧ tt ρ1 S fun b S2 => if b = true then we ρ1 S2 fun y S3 => acc.length < sizeLine ∧ Inv (i + 1) (acc ++ [y]) S3 else Inv (i + 1) acc S2)
    (he : ∀ acc S, Inv xs.length acc S → R acc S) (mt : MonoT tt) (me : MonoW we) : lcW g p tt we ρ0 R xs [] S := by
  have go : ∀ (ys : List T) (i : Nat) (acc : List T) (S : Sta), i + ys.length = xs.length → xs.drop i = ys → Inv i acc S → lcW g p tt we ρ0 R ys acc S := by
    intro ys
    induction ys with
    | nil =>
      intro i acc S hl hd h
      have : i = xs.length := by simpa using hl
      subst this
      exact ⟨hg _ _ _ h, he _ _ h⟩
    | cons y ys ih =>
      intro i acc S hl hd h
      rw [List.length_cons] at hl
      have hi : i < xs.length := by omega
      rw [List.drop_eq_getElem_cons hi] at hd
      injection hd with h1 h2
      have e : xs[i]? = some y := by rw [List.getElem?_eq_getElem hi, h1]
      obtain ⟨ρ1, hb, q⟩ := hs i y acc S e h
      refine ⟨hg _ _ _ h, ρ1, hb, mt _ _ _ _ (fun b S2 q => ?_) q⟩
      cases b with
      | true => exact me _ _ _ _ (fun z S3 q => ⟨q.1, ih (i + 1) _ S3 (by omega) h2 q.2⟩) q
      | false => exact ih (i + 1) _ S2 (by omega) h2 q
  exact go xs 0 [] S (by simp) rfl h0
/-- a plain map -/
theorem lcW_map {g : Sta → Prop} {p : Pat} {we : Wp} {ρ0 : Ev} {R : List T → Sta → Prop} {xs : List T} {S : Sta} (f : T → T) (Inv : Sta → Prop) (h0 : Inv S) (hg : ∀ S, Inv S → g S) (hl : xs.length ≤ sizeLine)
    (hs : ∀ x S, x ∈ xs → Inv S → ∃ ρ1, bindP p x S ρ0 = some ρ1 ∧ we ρ1 S fun y S' => y = f x ∧ Inv S') (he : ∀ S, Inv S → R (xs.map f) S) (me : MonoW we) : lcW g p wYes we ρ0 R xs [] S := by
  refine lcW_by (fun i acc S => i ≤ xs.length ∧ acc = (xs.take i).map f ∧ Inv S) ⟨Nat.zero_le _, rfl, h0⟩ (fun i acc S h => hg S h.2.2) (fun i x acc S e h => ?_) (fun acc S h => ?_) mono_yes me
  · obtain ⟨hi, rfl, h⟩ := h
    obtain ⟨hlt, _⟩ := List.getElem?_eq_some_iff.mp e
    obtain ⟨ρ1, hb, q⟩ := hs x S (List.mem_of_getElem? e) h
    refine ⟨ρ1, hb, ?_⟩
    show we ρ1 S _
    refine me _ _ _ _ (fun y S3 q => ?_) q
    obtain ⟨rfl, q⟩ := q
    refine ⟨by rw [List.length_map, List.length_take]; omega, hlt, ?_, q⟩
    rw [List.take_add_one, e, List.map_append]
    rfl
  · obtain ⟨_, rfl, h⟩ := h
    rw [List.take_length]
    exact he S h
theorem boolsOf_map {α : Type} (f : α → Bool) : ∀ xs : List α, boolsOf (xs.map fun x => .bl (f x)) = some (xs.map f)
  | [] => rfl
  | x :: xs => by
    show (boolsOf (xs.map fun x => .bl (f x))).map _ = _
    rw [boolsOf_map f xs]
    rfl
theorem map_all {α : Type} (f : α → Bool) (xs : List α) : (xs.map f).all id = xs.all f := by rw [List.all_map]; rfl
theorem map_any {α : Type} (f : α → Bool) (xs : List α) : (xs.map f).any id = xs.any f := by rw [List.any_map]; rfl
theorem sizeLine_val : sizeLine = 16777216 := sizeLine_eq
theorem cdivp_ok {i j : Int} (h0 : 0 < j) (h1 : j < 2 ^ 62) : CDivP i j := by
  refine ⟨h0, ?_⟩
  unfold Builtin.divisionGoesByPylong
  have hj : ¬ (j == 0) = true := by simp; omega
  have hl : j.natAbs.log2 < 62 := by
    rw [Nat.log2_lt (by omega)]
    omega
  simp only [hj, if_false, Bool.false_eq_true]
  have : decide (j.natAbs.log2 / 30 + 1 > 300) = false := decide_eq_false (by omega)
  rw [this]
  rfl
/-! ### steps -/
theorem atI_nat {α : Type} {xs : List α} {n : Nat} {t : α} (e : xs[n]? = some t) : atI xs (n : Int) = some t := by
  have hl : n < xs.length := (List.getElem?_eq_some_iff.mp e).1
  unfold atI ixN
  rw [if_pos (by omega), if_pos (by omega)]
  simpa using e
theorem ixN_nat {n j : Nat} (h : j < n) : ixN n (j : Int) = some j := by
  unfold ixN
  rw [if_pos (by omega), if_pos (by omega)]
  simp
theorem ixG_tup {xs : List T} {i : Int} {S : Sta} {Q : T → Sta → Prop} {t : T} (e : atI xs i = some t) (q : Q t S) : ixG (.tup xs) (.int i) S Q := ⟨t, e, q⟩
theorem ixG_frz {xs : List T} {i : Int} {S : Sta} {Q : T → Sta → Prop} {t : T} (e : atI xs i = some t) (q : Q t S) : ixG (.frz xs) (.int i) S Q := ⟨t, e, q⟩
theorem ixG_lst {xs : List T} {i : Int} {j : Nat} {S : Sta} {Q : T → Sta → Prop} {t : T} (hj : S[j]? = some (.lst xs)) (e : atI xs i = some t) (q : Q t S) : ixG (.obj j) (.int i) S Q := by
  simp only [ixG, hj]
  exact ⟨t, e, q⟩
theorem ixG_dct {kvs : List (T × T)} {y : T} {j : Nat} {S : Sta} {Q : T → Sta → Prop} {t : T} (hj : S[j]? = some (.dct kvs)) (hk : isKey y = true) (e : dget kvs y = some t) (q : Q t S) : ixG (.obj j) y S Q := by
  simp only [ixG, hj]
  exact ⟨hk, t, e, q⟩
theorem inW_dct {kvs : List (T × T)} {x : T} {i : Nat} {S : Sta} {Q : Bool → Prop} (hi : S[i]? = some (.dct kvs)) (hk : isKey x = true) (q : Q (dget kvs x).isSome) : inW x (.obj i) S Q := by
  cases x <;> simp only [inW, hi] <;> exact ⟨hk, q⟩
theorem inW_lst {ys : List T} {x : T} {i : Nat} {S : Sta} {Q : Bool → Prop} (hi : S[i]? = some (.lst ys)) (h1 : gr x = true) (h2 : grs ys = true) (h3 : min (deps ys) (dep x) ≤ 100) (q : Q (ys.any fun y => teq y x)) : inW x (.obj i) S Q := by
  cases x <;> simp only [inW, hi] <;> exact ⟨h1, h2, h3, q⟩
theorem atI_zero {α : Type} {x : α} {xs : List α} : atI (x :: xs) 0 = some x := atI_nat (n := 0) rfl
theorem cut_tail {α : Type} (x : α) (xs : List α) : cutL (x :: xs) (some 1) none = xs := by
  unfold cutL HT.sIx
  simp
theorem lenW_tup {xs : List T} {S : Sta} {Q : Nat → Prop} (q : Q xs.length) : lenW (.tup xs) S Q := q
theorem lenW_lst {xs : List T} {i : Nat} {S : Sta} {Q : Nat → Prop} (hi : S[i]? = some (.lst xs)) (q : Q xs.length) : lenW (.obj i) S Q := by
  simp only [lenW, hi]
  exact q
theorem iterW_lst {xs : List T} {j : Nat} {S : Sta} {R : List T → (Sta → Prop) → Sta → Prop} (h : S[j]? = some (.lst xs)) (q : R xs (fun S => S[j]? = some (.lst xs)) S) : iterW (.obj j) S R := by
  simp only [iterW, h]
  exact q
theorem iterW_tup {xs : List T} {S : Sta} {R : List T → (Sta → Prop) → Sta → Prop} (q : R xs (fun _ => True) S) : iterW (.tup xs) S R := q
theorem iterW_str {z : List Nat} {S : Sta} {R : List T → (Sta → Prop) → Sta → Prop} (q : R (z.map fun c => .str [c]) (fun _ => True) S) : iterW (.str z) S R := q
section
variable {i j : Int} {x y : List Nat} {S : Sta} {Q : T → Sta → Prop}
theorem cg_eq_int (q : Q (.bl (decide (i = j))) S) : cmpG .Eq (.int i) (.int j) S Q := q
theorem cg_ne_int (q : Q (.bl (!decide (i = j))) S) : cmpG .NotEq (.int i) (.int j) S Q := q
theorem cg_eq_str (q : Q (.bl (decide (x = y))) S) : cmpG .Eq (.str x) (.str y) S Q := q
theorem cg_ne_str (q : Q (.bl (!decide (x = y))) S) : cmpG .NotEq (.str x) (.str y) S Q := q
theorem cg_lt (q : Q (.bl (decide (i < j))) S) : cmpG .Lt (.int i) (.int j) S Q := q
theorem cg_le (q : Q (.bl (decide (i ≤ j))) S) : cmpG .LtE (.int i) (.int j) S Q := q
theorem cg_gt (q : Q (.bl (decide (j < i))) S) : cmpG .Gt (.int i) (.int j) S Q := q
theorem cg_ge (q : Q (.bl (decide (j ≤ i))) S) : cmpG .GtE (.int i) (.int j) S Q := q
theorem bin_add (q : Q (.int (i + j)) S) : binop .Add (.int i) (.int j) S Q := q
theorem bin_sub (q : Q (.int (i - j)) S) : binop .Sub (.int i) (.int j) S Q := q
theorem bin_mul_l (h : 0 ≤ i ∧ i < 2 ^ 63) (q : Q (.int (i * j)) S) : binop .Mult (.int i) (.int j) S Q := ⟨.inl ⟨by omega, by omega⟩, q⟩
theorem bin_mul_r (h : 0 ≤ j ∧ j < 2 ^ 63) (q : Q (.int (i * j)) S) : binop .Mult (.int i) (.int j) S Q := ⟨.inr ⟨by omega, by omega⟩, q⟩
theorem bin_mod (h : 0 < j) (q : Q (.int (i % j)) S) : binop .Mod (.int i) (.int j) S Q := ⟨h, q⟩
theorem bin_div (h : 0 < j ∧ j < 1073741824) (q : Q (.int (i / j)) S) : binop .FloorDiv (.int i) (.int j) S Q := ⟨h, q⟩
theorem bin_str (h : x.length + y.length ≤ 16777216) (q : Q (.str (x ++ y)) S) : binop .Add (.str x) (.str y) S Q := ⟨by rw [sizeLine_val]; exact h, q⟩
theorem bin_tup {xs ys : List T} (h : xs.length + ys.length ≤ 16777216) (q : Q (.tup (xs ++ ys)) S) : binop .Add (.tup xs) (.tup ys) S Q := ⟨by rw [sizeLine_val]; exact h, q⟩
theorem bin_lst {a b : Nat} {xs ys : List T} (ha : S[a]? = some (.lst xs)) (hb : S[b]? = some (.lst ys)) (h : xs.length + ys.length ≤ 16777216) (q : Q (.obj S.length) (S ++ [.lst (xs ++ ys)])) : binop .Add (.obj a) (.obj b) S Q :=
  ⟨xs, ys, ha, hb, by rw [sizeLine_val]; exact h, q⟩
theorem setW_lst {o : Nat} {k : Int} {n : Nat} {xs : List T} {v : T} {Q : Sta → Prop} (ho : S[o]? = some (.lst xs)) (hk : ixN xs.length k = some n) (q : Q (S.set o (.lst (xs.set n v)))) : setW (.obj o) (.int k) v S Q := by
  simp only [setW, ho]
  exact ⟨n, hk, q⟩
theorem setW_dct {o : Nat} {k v : T} {kvs : List (T × T)} {Q : Sta → Prop} (ho : S[o]? = some (.dct kvs)) (hk : isKey k = true) (hl : kvs.length < 16777216) (q : Q (S.set o (.dct (dput kvs k v)))) : setW (.obj o) k v S Q := by
  simp only [setW, ho]
  exact ⟨hk, by rw [sizeLine_val]; exact hl, q⟩
end
theorem gDivmod_ok {i j : Int} {S : Sta} {Q : T → Sta → Prop} (h0 : 0 < j) (h1 : j < 2 ^ 62) (q : Q (.tup [.int (i / j), .int (i % j)]) S) : gDivmod [.int i, .int j] S Q := ⟨cdivp_ok h0 h1, q⟩
theorem gAbs_ok {i : Int} {S : Sta} {Q : T → Sta → Prop} (q : ∀ j : Int, Q (.int j) S) : gAbs [.int i] S Q := q _
theorem gLen_lst {xs : List T} {i : Nat} {S : Sta} {Q : T → Sta → Prop} (hi : S[i]? = some (.lst xs)) (q : Q (.int (xs.length : Int)) S) : gLen [.obj i] S Q := lenW_lst (Q := fun n : Nat => Q (.int (n : Int)) S) hi q
theorem gLen_tup {xs : List T} {S : Sta} {Q : T → Sta → Prop} (q : Q (.int (xs.length : Int)) S) : gLen [.tup xs] S Q := q
theorem gLen_frz {xs : List T} {S : Sta} {Q : T → Sta → Prop} (q : Q (.int (xs.length : Int)) S) : gLen [.frz xs] S Q := q
theorem cg_in_dct {kvs : List (T × T)} {x : T} {i : Nat} {S : Sta} {Q : T → Sta → Prop} (hi : S[i]? = some (.dct kvs)) (hk : isKey x = true) (q : Q (.bl (dget kvs x).isSome) S) : cmpG .In x (.obj i) S Q := inW_dct (Q := fun b => Q (.bl b) S) hi hk q
theorem cg_notin_dct {kvs : List (T × T)} {x : T} {i : Nat} {S : Sta} {Q : T → Sta → Prop} (hi : S[i]? = some (.dct kvs)) (hk : isKey x = true) (q : Q (.bl (!(dget kvs x).isSome)) S) : cmpG .NotIn x (.obj i) S Q := inW_dct (Q := fun b => Q (.bl (!b)) S) hi hk q
theorem insOf_ok {S : Sta} {b : Nat} {c m : List Nat} {fs : List (List Nat × T)} (h : S[b]? = some (.ins c fs)) (hm : fs.lookup m = none) : insOf S c m (.obj b) := by
  simp only [insOf, h]
  exact ⟨trivial, hm⟩
theorem lookup_keys {β : Type} {fs : List (List Nat × β)} {ks : List (List Nat)} {m : List Nat} (h : fs.map (·.1) = ks) (hm : m ∉ ks) : fs.lookup m = none := by
  induction fs generalizing ks with
  | nil => rfl
  | cons p fs ih =>
    subst h
    rw [List.map_cons, List.mem_cons, not_or] at hm
    rw [List.lookup_cons]
    have : (m == p.1) = false := by simpa using hm.1
    rw [this]
    exact ih rfl hm.2
theorem gDict_new {S : Sta} {xs : List T} {ps : List (T × T)} {Q : T → Sta → Prop} (h : pairsIn xs = some ps) (q : Q (.obj (S ++ [Cell.lst xs]).length) ((S ++ [Cell.lst xs]) ++ [.dct (dmake ps)])) : gDict [.obj S.length] (S ++ [.lst xs]) Q :=
  ⟨xs, ps, by simp only [lstOf, get_new], h, q⟩
end TR
set_option Elab.async false
set_option linter.all false
set_option maxRecDepth 100000
set_option maxHeartbeats 2000000
/-! TR23: tools for a law's end: a hook with looks of one's own, facts about names. -/
namespace TR
open PySem PySem.Spec L2
open PyProof.Rows hiding St
def obsC (fa : List He.Fa) (fn : List He.DefD) (ck : PySem.W.Frag → Bool) (K : PySem.W.Frag) : He.AlD × Bool := (He.obsD fa fn K, ck K)
def obsCG (as : List Addr) (fa : List He.Fa) (fn : List He.DefD) (ck : PySem.W.Frag → Bool) (g : Addr → Option Obj) : He.AlD × Bool := obsC fa fn ck (He.frG g as)
def hookC (as : List Addr) (fa : List He.Fa) (fn : List He.DefD) (ck : PySem.W.Frag → Bool) : PySem.W.Hook where
  α := He.AlD × Bool
  obs := fun s => obsCG as fa fn ck s.heap.get?
  val := fun _ => (He.valD fn, true)
  says := fun _ h => ∃ K : PySem.W.Frag, K.In h ∧ (He.SaysD fa fn K ∧ ck K = true)
  of := fun _ _ e => ⟨_, He.frG_in, congrArg Prod.fst e, congrArg Prod.snd e⟩
  keeps := fun _ _ _ ⟨K, hK, c⟩ k => ⟨K, PySem.W.Frag.In.keeps hK k, c⟩
theorem obsCG_eq {as : List Addr} {fa : List He.Fa} {fn : List He.DefD} {ck : PySem.W.Frag → Bool} {g : Addr → Option Obj} {s : Shared} (h : ∀ a, g a = s.heap.get? a) : obsCG as fa fn ck g = (hookC as fa fn ck).obs s := by
  have e : g = s.heap.get? := funext h
  rw [e] <;> rfl
section
variable {B : Bs} {at_ : CAt} {L : List Fn} {h : Heap} {x : Str}
theorem stg_fn {F : Fn} {g : Nat} {alts : List (Nat × List T)} (hF : F ∈ L) (hg : F.fid = g) (ha : F.dd.at_ = (x, none)) (X : B.K.In h) (G : h.Ns mainGlobals B.mg) (c : (He.Fa.glo x).ok B.K = true) (hb : ∀ q ∈ alts, BindOk B.K F q.2) : StG B at_ L (x, .fn g alts) :=
  ⟨F, hF, hg, by rw [ha]; exact He.glo_ok X G c, hb⟩
theorem stg_cls {F : Fn} {g : Nat} {c : List Nat} {alts : List (Nat × List T)} (hF : F ∈ L) (hg : F.fid = g) (ha : F.dd.at_ = (x, some ("__init__" : Str))) (X : B.K.In h) (G : h.Ns mainGlobals B.mg) (c1 : (He.Fa.glo x).ok B.K = true) (c2 : (He.Fa.mkr x).ok B.K = true) (hat : at_ c = some (He.ga B.K x)) (hb : ∀ q ∈ alts, BindOk B.K F q.2) : StG B at_ L (x, .cls c g alts) :=
  ⟨F, hF, hg, _, hat, by rw [ha]; exact He.mkr_ok c2, He.glo_ok X G c1, hb⟩
theorem stg_int {i : Int} (X : B.K.In h) (G : h.Ns mainGlobals B.mg) (c : (He.Fa.int x i).ok B.K = true) : StG B at_ L (x, .con (.int i)) := by
  obtain ⟨t, e⟩ := He.int_ok X G c
  exact ⟨.int i, _, e, ⟨t, rfl⟩, fun _ _ => .int _⟩
theorem stg_str {z : Str} (X : B.K.In h) (G : h.Ns mainGlobals B.mg) (c : (He.Fa.str x z).ok B.K = true) : StG B at_ L (x, .con (.str z.cps.toList)) := by
  obtain ⟨t, e⟩ := He.str_ok X G c
  exact ⟨.str z, _, e, ⟨t, rfl⟩, fun H m => by
    have := RelT.str (K := B.K) (H := H) (m := m) z.cps.toList
    rw [mkS_toList] at this
    exact this⟩
theorem stg_blt (X : B.K.In h) (G : h.Ns mainGlobals B.mg) (c : (He.Fa.free x).ok B.K = true) : StG B at_ L (x, .blt) := He.free_ok X G c
theorem stg_tup {ts : List T} {vs : List He.Dv} (X : B.K.In h) (G : h.Ns mainGlobals B.mg) (c : (He.Fa.glo x).ok B.K = true) (c2 : He.tupB B.K x vs = true) (hr : ∀ H m, RelTs B.K H m ts (vs.map (He.Dv.v B.K))) : StG B at_ L (x, .con (.tup ts)) :=
  ⟨.ref (He.ga B.K x), _, He.glo_ok X G c, rfl, fun H m => .tup (He.tupB_ok c2 H) (hr H m)⟩
theorem stm {F : Fn} {g : Nat} {cl : Str} {cn : List Nat} {alts : List (Nat × List T)} {kalts : List (Nat × List Str)} (hF : F ∈ L) (hg : F.fid = g) (ha : F.dd.at_ = (cl, some x)) (hat : at_ cn = some (He.ga B.K cl)) (c1 : (He.Fa.cls cl).ok B.K = true) (c2 : (He.Fa.meth cl x).ok B.K = true)
    (hb : ∀ q ∈ alts, BindOk B.K F q.2) (hk : ∀ q ∈ kalts, KBindOk B.K F (q.1 + 1) q.2) : StM B at_ L (x, ⟨cn, g, alts, kalts⟩) :=
  ⟨F, hF, hg, _, hat, He.cls_ok c1, by rw [ha]; exact He.meth_ok c2, hb, hk⟩
end
theorem FunD.uniq {K : PySem.W.Frag} {x qual : Str} {params : Arguments} {body : List Stmt} {scope : Scope} {dvs : List V} {kws : List (Str × V)} {f : Addr} {fd fd' : FuncData} (a : FunD K x qual params body scope dvs kws f fd) (b : FunD K x qual params body scope dvs kws f fd') : fd = fd' := by
  obtain ⟨_, _, _, _, _, _, _, _, _, _, _, l1, _⟩ := a.ex
  obtain ⟨_, _, _, _, _, _, _, _, _, _, _, l2, _⟩ := b.ex
  have e := l1.symm.trans l2
  simp only [Option.some.injEq, Obj.mk.injEq, Data.func.injEq] at e
  exact e.2.2.1
theorem relT_frz {K : PySem.W.Frag} {H : Hp} {a : Addr} {ns : List Int} {m : List Addr} (hO : Only H) (h : SqL K H a (ns.map V.int)) : RelT K H m (.frz (ns.map .int)) (.ref a) := by
  have r : ∀ ns : List Int, RelTs K H m (ns.map .int) (ns.map V.int) := fun ns => by
    induction ns with
    | nil => exact .nil
    | cons n ns ih => exact .cons (.int n) ih
  refine .frz ?_ (r ns)
  rcases h with h | h
  · rcases h with h | h
    · rcases hO a with e | ⟨o, xs, e⟩
      · rw [e] at h; cases h
      · rw [e] at h; cases h
    · exact .inl h
  · exact .inr h
/-- the law's own call -/
theorem law_sp {K : PySem.W.Frag} {at_ : CAt} {co : Co} {H : Hp} {a : Addr} {ns : List Int} {E : XK} (hn : co.n = 1) (hO : Only H) (h : SqL K H a (ns.map V.int)) (hc : co.run [.frz (ns.map .int)] [] fun r _ => r = .bl true) :
    liftSp K at_ co [.ref a] H (fun v _ => v = .bl true) E := by
  refine ⟨hn.symm, [], [], [.frz (ns.map .int)], ⟨List.nodup_nil, rfl, fun i c a e => by simp at e, .rfl'⟩, .cons (relT_frz hO h) .nil, co.mono _ _ _ _ (fun r S' q => ?_) hc⟩
  intro m' H' v _ _ rt
  subst q
  cases rt
  rfl
end TR
set_option Elab.async false
set_option linter.all false
set_option maxRecDepth 100000
set_option maxHeartbeats 2000000
/-! TB1: bodies. -/
namespace TR
open PySem PySem.Spec L2
open PyProof.Rows hiding St
abbrev tx (s : String) : List Nat := (PySem.Str.ofString s).cps.toList
/-! law -/
def x_law_1l_6_e0 : E := (.app 4 [] (.cons (.var 7) (.cons (.var 11) (.cons (.app 7 [] (.cons (.var 4) (.cons (.var 11) .nil))) .nil))))
def b_law_2 : S := .cons (.ret (.c (.bl true))) .nil
def b_law_1l_4l_3l_1 : S := .cons (.ite (.not (.app 4 [] (.cons (.var 7) (.cons (.var 11) (.cons (.app 7 [] (.cons (.var 4) (.cons (.var 11) .nil))) .nil))))) (.cons (.ret (.c (.bl false))) .nil) .nil) .nil
def b_law_1l_4l_3l_0 : S := .cons (.asg (.nm 11) (.app 8 [] (.cons (.var 3) (.cons (.var 9) (.cons (.c (.int 3)) .nil))))) b_law_1l_4l_3l_1
def b_law_1l_4l_3 : S := .cons (.for_ (.rng1 (.c (.int 6))) (.nm 10) b_law_1l_4l_3l_0) .nil
def b_law_1l_4l_2 : S := .cons (.asg (.nm 9) (.app 6 [] (.cons (.var 3) (.cons (.var 4) (.cons (.c (.int 2)) .nil))))) b_law_1l_4l_3
def b_law_1l_4l_1 : S := .cons (.ite (.or (.not (.app 4 [] (.cons (.var 7) (.cons (.var 9) (.cons (.c (.bl true)) .nil))))) (.not (.app 4 [] (.cons (.var 8) (.cons (.var 9) (.cons (.app 7 [] (.cons (.var 1) (.cons (.var 9) .nil))) .nil)))))) (.cons (.ret (.c (.bl false))) .nil) .nil) b_law_1l_4l_2
def b_law_1l_4l_0 : S := .cons (.asg (.nm 9) (.app 6 [] (.cons (.var 3) (.cons (.var 4) (.cons (.c (.int 3)) .nil))))) b_law_1l_4l_1
def b_law_1l_6 : S := .cons (.ite (.not (.bi .all (.cons (.lc (.w (.var 6)) (.nm 11) .nil x_law_1l_6_e0 [11]) .nil))) (.cons (.ret (.c (.bl false))) .nil) .nil) .nil
def b_law_1l_5 : S := .cons (.asg (.nm 6) (.lst (.cons (.c .non) (.cons (.c (.int 7)) (.cons (.c (.bl true)) (.cons (.lst .nil) (.cons .dict0 (.cons (.c (.str [])) (.cons (.c (.str (tx "Bool"))) (.cons (.tup (.cons (.c (.str (tx "nothere"))) .nil)) (.cons (.tup (.cons (.c (.str (tx "fun"))) .nil)) (.cons (.tup (.cons (.c (.str (tx "bool"))) (.cons (.c (.str (tx "a"))) .nil))) (.cons (.tup (.cons (.c (.str (tx "fun"))) (.cons (.c (.str (tx "a"))) .nil))) .nil))))))))))))) b_law_1l_6
def b_law_1l_4 : S := .cons (.for_ (.rng1 (.c (.int 6))) (.nm 5) b_law_1l_4l_0) b_law_1l_5
def b_law_1l_3 : S := .cons (.asg (.nm 4) (.app 5 [] (.cons (.var 3) (.cons (.var 7) .nil)))) b_law_1l_4
def b_law_1l_2 : S := .cons (.ite (.or (.not (.app 4 [] (.cons (.var 7) (.cons (.tup (.cons (.c (.str (tx "bool"))) .nil)) (.cons (.c (.bl true)) .nil))))) (.not (.app 4 [] (.cons (.var 7) (.cons (.tup (.cons (.c (.str (tx "fun"))) (.cons (.c (.str (tx "bool"))) (.cons (.tup (.cons (.c (.str (tx "bool"))) .nil)) .nil)))) (.cons (.c (.bl true)) .nil)))))) (.cons (.ret (.c (.bl false))) .nil) .nil) b_law_1l_3
def b_law_1l_1 : S := .cons (.asg (.tup 2 (.cons (.nm 7) (.cons (.nm 8) .nil))) (.tup (.cons (.new (tx "Book") 3 [] .nil) (.cons (.new (tx "Book") 3 [] .nil) .nil)))) b_law_1l_2
def b_law_1l_0 : S := .cons (.asg (.nm 3) (.app 1 [] (.cons (.app 2 [] (.cons (.var 0) (.cons (.var 2) .nil))) .nil))) b_law_1l_1
def b_law_1 : S := .cons (.for_ (.rng1 (.bi .max (.cons (.c (.int 1)) (.cons (.bi .min (.cons (.bi .len (.cons (.var 0) .nil)) (.cons (.c (.int 10)) .nil))) .nil)))) (.nm 2) b_law_1l_0) b_law_2
def b_law_0 : S := .cons (.asg (.nm 1) (.bi .dict (.cons (.lst (.cons (.tup (.cons (.c (.str (tx "bool"))) (.cons (.c (.int 0)) .nil))) (.cons (.tup (.cons (.c (.str (tx "fun"))) (.cons (.c (.int 2)) .nil))) .nil))) .nil))) b_law_1
/-! law_pool -/
def b_law_pool_2 : S := .cons (.ret (.lst (.cons (.bin .Mod (.var 0) (.c (.int 2147483549))) (.cons (.var 1) (.cons (.c (.int 0)) .nil))))) .nil
def b_law_pool_1 : S := .cons (.ite (.or (.cmp .Lt (.var 0) (.c (.int 0))) (.cmp .GtE (.var 0) (.bin .Pow (.c (.int 10)) (.c (.int 18))))) (.cons (.asg (.nm 1) (.bi .abs (.cons (.var 0) .nil))) .nil) .nil) b_law_pool_2
def b_law_pool_0 : S := .cons (.asg (.nm 1) (.c (.int 0))) b_law_pool_1
/-! law_cell -/
def b_law_cell_3 : S := .cons (.ret (.var 2)) .nil
def b_law_cell_2l_0 : S := .cons (.asg (.nm 2) (.bin .Mod (.bin .Add (.bin .Mult (.var 2) (.c (.int 39019))) (.var 3)) (.c (.int 2147483549)))) .nil
def b_law_cell_2 : S := .cons (.for_ (.w (.sl (.var 0) .nil (.w (.c (.int 3))))) (.nm 3) b_law_cell_2l_0) b_law_cell_3
def b_law_cell_1 : S := .cons (.asg (.nm 2) (.bin .Mod (.bin .Mult (.c (.int 70001)) (.bin .Add (.bin .Add (.bin .Mult (.var 1) (.var 1)) (.bin .Mult (.c (.int 11)) (.var 1))) (.c (.int 3)))) (.c (.int 2147483549)))) b_law_cell_2
def b_law_cell_0 : S := .cons (.ite (.cmp .Lt (.var 1) (.bi .len (.cons (.var 0) .nil))) (.cons (.ret (.ix (.var 0) (.var 1))) .nil) .nil) b_law_cell_1
/-! Book_init -/
def b_Book_init_5 : S := .cons (.fld (tx "kept") (.var 0) (.lst .nil)) .nil
def b_Book_init_4 : S := .cons (.fld (tx "axioms") (.var 0) .dict0) b_Book_init_5
def b_Book_init_3 : S := .cons (.fld (tx "parted") (.var 0) .dict0) b_Book_init_4
def b_Book_init_2 : S := .cons (.fld (tx "meanings") (.var 0) .dict0) b_Book_init_3
def b_Book_init_1 : S := .cons (.fld (tx "constants") (.var 0) (.disp (.cons (.c (.str (tx "eq"))) (.cons (.app 9 [] (.cons (.c (.str (tx "a"))) (.cons (.app 9 [] (.cons (.c (.str (tx "a"))) (.cons (.c (.tup [(.str (tx "bool"))])) .nil))) .nil))) .nil)))) b_Book_init_2
def b_Book_init_0 : S := .cons (.fld (tx "wants") (.var 0) (.disp (.cons (.c (.str (tx "bool"))) (.cons (.c (.int 0)) (.cons (.c (.str (tx "fun"))) (.cons (.c (.int 2)) .nil)))))) b_Book_init_1
/-! law_is -/
def b_law_is_1 : S := .cons (.ret (.and (.isi .bool (.var 3)) (.cmp .Eq (.var 3) (.var 2)))) .nil
def b_law_is_0 : S := .cons (.asg (.nm 3) (.app 10 [] (.cons (.var 0) (.cons (.var 1) .nil)))) b_law_is_1
/-! law_wanting -/
def b_law_wanting_2 : S := .cons (.ret (.var 2)) .nil
def b_law_wanting_1l_0t_1 : S := .cons (.ite (.cmp .Eq (.ix (.var 2) (.var 3)) (.c (.int 0))) (.cons (.x (.meth (tx "Book") (tx "declare_kind") 13 [(.int 0)] (.var 1) (.cons (.var 3) .nil))) .nil) (.cons (.x (.methK (tx "Book") (tx "declare_kind") 13 2 1 (.var 1) (.cons (.var 3) .nil) (.cons (.ix (.var 2) (.var 3)) .nil))) .nil)) .nil
def b_law_wanting_1l_0t_0 : S := .cons (.asg (.sub (.var 2) (.var 3)) (.app 12 [] (.cons (.var 0) (.cons (.c (.int 4)) .nil)))) b_law_wanting_1l_0t_1
def b_law_wanting_1l_0 : S := .cons (.ite (.cmp .NotIn (.var 3) (.var 2)) b_law_wanting_1l_0t_0 .nil) .nil
def b_law_wanting_1 : S := .cons (.for_ (.w (.sl (.app 11 [] (.cons (.var 0) .nil)) .nil (.w (.bin .Add (.c (.int 1)) (.app 12 [] (.cons (.var 0) (.cons (.c (.int 5)) .nil))))))) (.nm 3) b_law_wanting_1l_0) b_law_wanting_2
def b_law_wanting_0 : S := .cons (.asg (.nm 2) (.bi .dict (.cons (.lst (.cons (.tup (.cons (.c (.str (tx "bool"))) (.cons (.c (.int 0)) .nil))) (.cons (.tup (.cons (.c (.str (tx "fun"))) (.cons (.c (.int 2)) .nil))) .nil))) .nil))) b_law_wanting_1
/-! law_some_kind -/
def x_law_some_kind_3_e0 : E := (.app 6 [] (.cons (.var 0) (.cons (.var 1) (.cons (.bin .Sub (.var 2) (.c (.int 1))) .nil))))
def b_law_some_kind_3 : S := .cons (.ret (.bin .Add (.tup (.cons (.var 4) .nil)) (.bi .tuple (.cons (.lc (.rng1 (.ix (.var 1) (.var 4))) (.nm 5) .nil x_law_some_kind_3_e0 [5]) .nil)))) .nil
def b_law_some_kind_2 : S := .cons (.asg (.nm 4) (.ix (.var 3) (.app 12 [] (.cons (.var 0) (.cons (.bi .len (.cons (.var 3) .nil)) .nil))))) b_law_some_kind_3
def b_law_some_kind_1 : S := .cons (.asg (.nm 3) (.bi .sorted (.cons (.var 1) .nil))) b_law_some_kind_2
def b_law_some_kind_0 : S := .cons (.ite (.or (.cmp .Eq (.var 2) (.c (.int 0))) (.cmp .Eq (.app 12 [] (.cons (.var 0) (.cons (.c (.int 4)) .nil))) (.c (.int 0)))) (.cons (.ret (.ix (.app 11 [] (.cons (.var 0) .nil)) (.c (.int 0)))) .nil) .nil) b_law_some_kind_1
/-! law_judged -/
def x_law_judged_3_e0 : E := (.app 7 [] (.cons (.var 0) (.cons (.var 2) .nil)))
def b_law_judged_3 : S := .cons (.ret (.bi .all (.cons (.lc (.w (.sl (.var 1) (.w (.c (.int 1))) .nil)) (.nm 2) .nil x_law_judged_3_e0 [2]) .nil))) .nil
def b_law_judged_2 : S := .cons (.ite (.cmp .NotEq (.bin .Sub (.bi .len (.cons (.var 1) .nil)) (.c (.int 1))) (.ix (.var 0) (.ix (.var 1) (.c (.int 0))))) (.cons (.ret (.c (.bl false))) .nil) .nil) b_law_judged_3
def b_law_judged_1 : S := .cons (.ite (.or (.cmp .Eq (.bi .len (.cons (.var 1) .nil)) (.c (.int 0))) (.or (.not (.isi .str (.ix (.var 1) (.c (.int 0))))) (.cmp .NotIn (.ix (.var 1) (.c (.int 0))) (.var 0)))) (.cons (.ret (.c (.bl false))) .nil) .nil) b_law_judged_2
def b_law_judged_0 : S := .cons (.ite (.not (.isi .tuple (.var 1))) (.cons (.ret (.app 14 [] (.cons (.var 1) .nil))) .nil) .nil) b_law_judged_1
/-! law_spoilt -/
def b_law_spoilt_2 : S := .cons (.ret (.bin .Add (.bin .Add (.sl (.var 1) .nil (.w (.var 3))) (.tup (.cons (.app 8 [] (.cons (.var 0) (.cons (.ix (.var 1) (.var 3)) (.cons (.bin .Sub (.var 2) (.c (.int 1))) .nil)))) .nil))) (.sl (.var 1) (.w (.bin .Add (.var 3) (.c (.int 1)))) .nil))) .nil
def b_law_spoilt_1 : S := .cons (.asg (.nm 3) (.app 12 [] (.cons (.var 0) (.cons (.bi .len (.cons (.var 1) .nil)) .nil)))) b_law_spoilt_2
def b_law_spoilt_0 : S := .cons (.ite (.or (.not (.isi .tuple (.var 1))) (.or (.cmp .Eq (.bi .len (.cons (.var 1) .nil)) (.c (.int 0))) (.or (.cmp .Eq (.var 2) (.c (.int 0))) (.cmp .Eq (.app 12 [] (.cons (.var 0) (.cons (.c (.int 3)) .nil))) (.c (.int 0)))))) (.cons (.ret (.app 15 [] (.cons (.var 0) (.cons (.var 1) .nil)))) .nil) .nil) b_law_spoilt_1
/-! fun_of -/
def b_fun_of_0 : S := .cons (.ret (.tup (.cons (.c (.str (tx "fun"))) (.cons (.var 0) (.cons (.var 1) .nil))))) .nil
/-! is_kind -/
def x_is_kind_3_e0 : E := (.app 10 [] (.cons (.var 0) (.cons (.var 4) .nil)))
def b_is_kind_3 : S := .cons (.ret (.and (.cmp .Eq (.bi .len (.cons (.var 3) .nil)) (.ix (.fld (.var 0) (tx "wants")) (.var 2))) (.bi .all (.cons (.lc (.w (.var 3)) (.nm 4) .nil x_is_kind_3_e0 [4]) .nil)))) .nil
def b_is_kind_2 : S := .cons (.asg (.star 2 1 (.cons (.nm 2) (.cons (.nm 3) .nil))) (.var 1)) b_is_kind_3
def b_is_kind_1 : S := .cons (.ite (.or (.cmp .Eq (.var 1) (.tup .nil)) (.or (.not (.isi .str (.ix (.var 1) (.c (.int 0))))) (.cmp .NotIn (.ix (.var 1) (.c (.int 0))) (.fld (.var 0) (tx "wants"))))) (.cons (.ret (.c (.bl false))) .nil) .nil) b_is_kind_2
def b_is_kind_0 : S := .cons (.ite (.not (.isi .tuple (.var 1))) (.cons (.ret (.app 16 [] (.cons (.var 1) .nil))) .nil) .nil) b_is_kind_1
/-! law_names -/
def x_law_names_2t_1_e0 : E := (.ix (.var 4) (.app 12 [] (.cons (.var 0) (.cons (.c (.int 26)) .nil))))
def x_law_names_2t_2_e0 : E := (.bin .Add (.var 5) (.ix (.var 4) (.bin .Mod (.bin .Add (.var 2) (.bin .Mult (.var 3) (.var 6))) (.c (.int 26)))))
def x_law_names_3_e0 : E := (.ix (.var 1) (.bin .Mod (.bin .Add (.var 2) (.bin .Mult (.var 3) (.var 6))) (.c (.int 12))))
def b_law_names_3 : S := .cons (.ret (.lc (.rng1 (.c (.int 12))) (.nm 6) .nil x_law_names_3_e0 [6])) .nil
def b_law_names_2t_2 : S := .cons (.ret (.lc (.rng1 (.c (.int 12))) (.nm 6) .nil x_law_names_2t_2_e0 [6])) .nil
def b_law_names_2t_1 : S := .cons (.asg (.nm 5) (.bm .join (.c (.str [])) (.cons (.lc (.rng1 (.app 12 [] (.cons (.var 0) (.cons (.c (.int 8)) .nil)))) (.nm 6) .nil x_law_names_2t_1_e0 [6]) .nil))) b_law_names_2t_2
def b_law_names_2t_0 : S := .cons (.asg (.nm 4) (.c (.str (tx "abcdefghijklmnopqrstuvwxyz")))) b_law_names_2t_1
def b_law_names_2 : S := .cons (.ite (.cmp .Eq (.app 12 [] (.cons (.var 0) (.cons (.c (.int 4)) .nil))) (.c (.int 0))) b_law_names_2t_0 .nil) b_law_names_3
def b_law_names_1 : S := .cons (.asg (.tup 2 (.cons (.nm 2) (.cons (.nm 3) .nil))) (.tup (.cons (.app 12 [] (.cons (.var 0) (.cons (.c (.int 12)) .nil))) (.cons (.ix (.lst (.cons (.c (.int 1)) (.cons (.c (.int 5)) (.cons (.c (.int 7)) (.cons (.c (.int 11)) .nil))))) (.app 12 [] (.cons (.var 0) (.cons (.c (.int 4)) .nil)))) .nil)))) b_law_names_2
def b_law_names_0 : S := .cons (.asg (.nm 1) (.lst (.cons (.c (.str (tx "v"))) (.cons (.c (.str (tx "c"))) (.cons (.c (.str (tx "b"))) (.cons (.c (.str (tx "kind"))) (.cons (.c (.str (tx "const"))) (.cons (.c (.str (tx "refl"))) (.cons (.c (.str (tx "eq"))) (.cons (.c (.str (tx "bool"))) (.cons (.c (.str (tx "fun"))) (.cons (.c (.str (tx "a"))) (.cons (.c (.str (tx "none"))) (.cons (.c (.str (tx "zzzzzzzz"))) .nil)))))))))))))) b_law_names_1
/-! law_take -/
def b_law_take_4 : S := .cons (.ret (.bin .Mod (.bin .FloorDiv (.ix (.var 0) (.c (.int 0))) (.c (.int 64))) (.var 1))) .nil
def b_law_take_3t_1 : S := .cons (.ret (.var 3)) .nil
def b_law_take_3t_0 : S := .cons (.asg (.tup 2 (.cons (.sub (.var 0) (.c (.int 1))) (.cons (.nm 3) .nil))) (.bi .divmod (.cons (.ix (.var 0) (.c (.int 1))) (.cons (.var 1) .nil)))) b_law_take_3t_1
def b_law_take_3 : S := .cons (.ite (.cmp .Gt (.ix (.var 0) (.c (.int 1))) (.c (.int 0))) b_law_take_3t_0 .nil) b_law_take_4
def b_law_take_2 : S := .cons (.asg (.sub (.var 0) (.c (.int 0))) (.bin .Mod (.bin .Add (.bin .Mult (.var 2) (.bin .Add (.bin .Mod (.var 2) (.c (.int 46021))) (.c (.int 32009)))) (.bin .Mult (.c (.int 90017)) (.ix (.var 0) (.c (.int 2))))) (.c (.int 2147483549)))) b_law_take_3
def b_law_take_1 : S := .cons (.asg (.nm 2) (.ix (.var 0) (.c (.int 0)))) b_law_take_2
def b_law_take_0 : S := .cons (.asg (.sub (.var 0) (.c (.int 2))) (.bin .Add (.ix (.var 0) (.c (.int 2))) (.c (.int 1)))) b_law_take_1
/-! Book_declare_kind -/
def b_Book_declare_kind_3 : S := .cons (.ret (.meth (tx "Book") (tx "keep") 19 [.non] (.var 0) (.cons (.tup (.cons (.c (.str (tx "declare_kind"))) (.cons (.var 1) (.cons (.var 2) .nil)))) .nil))) .nil
def b_Book_declare_kind_2 : S := .cons (.asg (.sub (.fld (.var 0) (tx "wants")) (.var 1)) (.var 2)) b_Book_declare_kind_3
def b_Book_declare_kind_1 : S := .cons (.ite (.or (.not (.app 18 [] (.cons (.var 2) .nil))) (.not (.chain .LtE .LtE (.c (.int 0)) (.var 2) (.c (.int 3))))) (.cons .no .nil) .nil) b_Book_declare_kind_2
def b_Book_declare_kind_0 : S := .cons (.x (.meth (tx "Book") (tx "check_new") 17 [] (.var 0) (.cons (.var 1) (.cons (.fld (.var 0) (tx "wants")) .nil)))) b_Book_declare_kind_1
/-! law_is_name -/
def x_law_is_name_1_e0 : E := (.cmp .In (.var 1) (.c (.str (tx "abcdefghijklmnopqrstuvwxyz"))))
def b_law_is_name_1 : S := .cons (.ret (.bi .all (.cons (.lc (.w (.var 0)) (.nm 1) .nil x_law_is_name_1_e0 [1]) .nil))) .nil
def b_law_is_name_0 : S := .cons (.ite (.or (.not (.isi .str (.var 0))) (.not (.chain .LtE .LtE (.c (.int 1)) (.bi .len (.cons (.var 0) .nil)) (.c (.int 8))))) (.cons (.ret (.c (.bl false))) .nil) .nil) b_law_is_name_1
/-! law_odd -/
def b_law_odd_4 : S := .cons (.ret (.ix (.var 2) (.app 12 [] (.cons (.var 0) (.cons (.bi .len (.cons (.var 2) .nil)) .nil))))) .nil
def b_law_odd_3 : S := .cons (.asg (.nm 2) (.bin .Add (.var 2) (.lst (.cons (.tup (.cons (.tup (.cons (.var 1) .nil)) .nil)) (.cons (.tup (.cons (.c .non) (.cons (.var 1) .nil))) (.cons (.tup (.cons (.lst .nil) .nil)) (.cons (.tup (.cons (.c (.str (tx "Fun"))) (.cons (.var 1) (.cons (.var 1) .nil)))) (.cons (.tup (.cons (.c (.bl true)) .nil)) (.cons (.tup (.cons (.c (.str (tx "fun"))) (.cons (.var 1) (.cons (.lst (.cons (.var 1) .nil)) .nil)))) .nil))))))))) b_law_odd_4
def b_law_odd_2 : S := .cons (.asg (.nm 2) (.bin .Add (.var 2) (.lst (.cons (.tup (.cons (.c (.str (tx "fun"))) (.cons (.var 1) .nil))) (.cons (.tup (.cons (.c (.str (tx "fun"))) (.cons (.var 1) (.cons (.var 1) (.cons (.var 1) .nil))))) (.cons (.tup (.cons (.c (.str (tx "bool"))) (.cons (.var 1) .nil))) (.cons (.tup (.cons (.c (.str (tx "nothere"))) .nil)) (.cons (.c (.str (tx "fun a b"))) .nil)))))))) b_law_odd_3
def b_law_odd_1 : S := .cons (.asg (.nm 2) (.bin .Add (.var 2) (.lst (.cons (.ite (.isi .tuple (.var 1)) (.bi .list (.cons (.var 1) .nil)) (.lst (.cons (.var 1) .nil))) (.cons (.tup (.cons (.var 1) .nil)) (.cons (.tup (.cons (.var 1) (.cons (.var 1) .nil))) (.cons (.c (.str (tx "bool"))) (.cons (.c (.str (tx "?a"))) .nil)))))))) b_law_odd_2
def b_law_odd_0 : S := .cons (.asg (.nm 2) (.lst (.cons (.c .non) (.cons (.c (.bl true)) (.cons (.c (.bl false)) (.cons (.c (.int 7)) (.cons (.c (.str [])) (.cons (.c (.str (tx "A"))) (.cons (.c (.str (tx "a1"))) (.cons (.c (.str (tx "ninesigns"))) (.cons (.lst .nil) (.cons .dict0 (.cons (.tup .nil) (.cons (.tup (.cons (.c (.str (tx "bool"))) .nil)) (.cons (.lst (.cons (.c (.str (tx "bool"))) .nil)) (.cons (.tup (.cons (.c (.str (tx "fun"))) (.cons (.c (.str (tx "a"))) (.cons (.c (.str (tx "b"))) .nil)))) .nil)))))))))))))))) b_law_odd_1
/-! is_name -/
def x_is_name_1_e0 : E := (.cmp .In (.var 1) (.c (.str (tx "abcdefghijklmnopqrstuvwxyz"))))
def b_is_name_1 : S := .cons (.ret (.bi .all (.cons (.lc (.w (.var 0)) (.nm 1) .nil x_is_name_1_e0 [1]) .nil))) .nil
def b_is_name_0 : S := .cons (.ite (.or (.not (.isi .str (.var 0))) (.not (.chain .LtE .LtE (.c (.int 1)) (.bi .len (.cons (.var 0) .nil)) (.c (.int 8))))) (.cons (.ret (.c (.bl false))) .nil) .nil) b_is_name_1
/-! Book_check_new -/
def b_Book_check_new_1 : S := .cons (.ite (.cmp .In (.var 1) (.var 2)) (.cons .no .nil) .nil) .nil
def b_Book_check_new_0 : S := .cons (.ite (.not (.app 16 [] (.cons (.var 1) .nil))) (.cons .no .nil) .nil) b_Book_check_new_1
/-! is_whole -/
def b_is_whole_0 : S := .cons (.ret (.and (.isi .int (.var 0)) (.not (.isi .bool (.var 0))))) .nil
/-! Book_keep -/
def b_Book_keep_1 : S := .cons (.ret (.bin .Sub (.bi .len (.cons (.fld (.var 0) (tx "kept")) .nil)) (.c (.int 1)))) .nil
def b_Book_keep_0 : S := .cons (.x (.bm .append (.fld (.var 0) (tx "kept")) (.cons (.tup (.cons (.var 1) (.cons (.var 2) .nil))) .nil))) b_Book_keep_1
end TR
set_option Elab.async false
set_option linter.all false
set_option maxRecDepth 100000
set_option maxHeartbeats 2000000
/-! TK1: names, kinds. -/
namespace TR
open PySem PySem.Spec L2
open PyProof.Rows hiding St

abbrev En0 (Q : T → Sta → Prop) : En := { nx := fun _ S => Q .non S, rt := Q }
def letters : List Nat := tx "abcdefghijklmnopqrstuvwxyz"
def nameOk (x : List Nat) : Bool := decide (1 ≤ x.length ∧ x.length ≤ 8) && x.all fun c => decide (c ∈ letters)
def nameT : T → Bool
  | .str x => nameOk x
  | _ => false
def co_is_name : Co := Co.of 1 (A := T) (fun t => [t]) (fun t S => wf S t = true) (fun t S r S' => Ex S S' ∧ r = .bl (nameT t))
theorem bd_nm (i : Nat) (t : T) (S : Sta) (ρ : Ev) : bindP (.nm i) t S ρ = some (ρ.set i (some t)) := by simp only [bindP]
/-- what a list that was just made holds -/
theorem gAll_new {S : Sta} {xs : List T} {bs : List Bool} {Q : T → Sta → Prop} (h : boolsOf xs = some bs) (q : Q (.bl (bs.all id)) (S ++ [.lst xs])) : gAll [.obj S.length] (S ++ [.lst xs]) Q :=
  ⟨xs, bs, by simp only [lstOf, get_new], h, q⟩
theorem st_is_name {W : Wd} {t : T} {S : Sta} {Q : T → Sta → Prop} (h : wf S t = true) (q : ∀ r S', Ex S S' ∧ r = .bl (nameT t) → Q r S') : denS W b_is_name_0 (En0 Q) [some t, none] S := by
  simp only [b_is_name_0, wLc2, wDc, wSk, shR, wZip, wsAug, wD2, denS, den, denA, denI, denO, denT, denG, denGs, wsSeq, wsN, wsIf, wsR, wsX, wsAsg, wsFld, wsBrk, wsCnt, wVar, wC, wTup, wLst, wDisp, wDict0, wOp, wChain, wAnd, wOr, wNot, wIf, wSl, wFld, wIsi, wCall, wBm, wApp, wMeth, wMethK, wNew, wNil, wCons, woN, woS, wgN, wgSub, wgTup, wgStar, wgNil, wgCons, wT, wYes, wLc, wIt, wRng1, wRng2, wsFor, wipeE, Bi.run, Bm.run, Bm.ty, List.getElem?_cons_zero, List.getElem?_cons_succ, List.set_cons_zero, List.set_cons_succ, Option.some.injEq, exists_eq_left', tru_bl, List.append_nil]
  obtain ⟨a, ha⟩ := tyOf_wf h
  refine ⟨a, ha, ?_⟩
  have no : nameT t = false → Q (.bl false) S := fun e => q _ _ ⟨.rfl', by rw [e]⟩
  cases t with
  | str x =>
    cases ha
    have hx : x.length ≤ 16777216 := of_decide_eq_true h
    simp only [isiB, gLen, lenW, cmpW, sizeLine_val]
    refine ⟨hx, ?_⟩
    have bad : ¬ (1 ≤ x.length ∧ x.length ≤ 8) → nameT (.str x) = false := fun z => by
      simp only [nameT, nameOk, decide_eq_false z, Bool.false_and]
    by_cases h1 : (1 : Int) ≤ x.length
    · by_cases h2 : (x.length : Int) ≤ 8
      · have ok : 1 ≤ x.length ∧ x.length ≤ 8 := by omega
        simp [h1, h2]
        simp only [b_is_name_1, wLc2, wDc, wSk, shR, wZip, wsAug, wD2, denS, den, denA, denI, denO, denT, denG, denGs, wsSeq, wsN, wsIf, wsR, wsX, wsAsg, wsFld, wsBrk, wsCnt, wVar, wC, wTup, wLst, wDisp, wDict0, wOp, wChain, wAnd, wOr, wNot, wIf, wSl, wFld, wIsi, wCall, wBm, wApp, wMeth, wMethK, wNew, wNil, wCons, woN, woS, wgN, wgSub, wgTup, wgStar, wgNil, wgCons, wT, wYes, wLc, wIt, wRng1, wRng2, wsFor, wipeE, Bi.run, Bm.run, Bm.ty, List.getElem?_cons_zero, List.getElem?_cons_succ, List.set_cons_zero, List.set_cons_succ, Option.some.injEq, exists_eq_left', tru_bl, List.append_nil]
        refine iterW_str (lcW_map (fun t => match t with
          | .str [c] => .bl (decide (c ∈ letters))
          | _ => .non) (fun S' => S' = S) rfl (fun _ _ => trivial) (by rw [List.length_map, sizeLine_val]; exact hx) (fun y S' hy e => ?_) (fun S' e => ?_) (mono_den W _))
        · subst e
          obtain ⟨c, hc, rfl⟩ := List.mem_map.mp hy
          refine ⟨_, bd_nm _ _ _ _, ?_⟩
          simp only [x_is_name_1_e0, wLc2, wDc, wSk, shR, wZip, wsAug, wD2, denS, den, denA, denI, denO, denT, denG, denGs, wsSeq, wsN, wsIf, wsR, wsX, wsAsg, wsFld, wsBrk, wsCnt, wVar, wC, wTup, wLst, wDisp, wDict0, wOp, wChain, wAnd, wOr, wNot, wIf, wSl, wFld, wIsi, wCall, wBm, wApp, wMeth, wMethK, wNew, wNil, wCons, woN, woS, wgN, wgSub, wgTup, wgStar, wgNil, wgCons, wT, wYes, wLc, wIt, wRng1, wRng2, wsFor, wipeE, Bi.run, Bm.run, Bm.ty, List.getElem?_cons_zero, List.getElem?_cons_succ, List.set_cons_zero, List.set_cons_succ, Option.some.injEq, exists_eq_left', tru_bl, List.append_nil]
          exact ⟨rfl, rfl⟩
        · subst e
          rw [List.map_map]
          refine gAll_new (boolsOf_map (fun c => decide (c ∈ letters)) x) (q _ _ ⟨.app, ?_⟩)
          simp only [nameT, nameOk, decide_eq_true ok, Bool.true_and, map_all]
      · simp [h1, h2]
        exact no (bad (by omega))
    · simp [h1]
      exact no (bad (by omega))
  | obj i =>
    have hne : a ≠ .str := fun e => by
      subst e
      simp only [tyOf] at ha
      split at ha <;> cases ha
    have : isiB a .str = false := by cases a <;> first | rfl | exact absurd rfl hne
    simp [this, no rfl]
  | _ => cases ha; simp [isiB, no rfl]
theorem st_law_is_name {W : Wd} {t : T} {S : Sta} {Q : T → Sta → Prop} (h : wf S t = true) (q : ∀ r S', Ex S S' ∧ r = .bl (nameT t) → Q r S') : denS W b_law_is_name_0 (En0 Q) [some t, none] S := st_is_name (W := W) h q
theorem st_is_whole {W : Wd} {t : T} {S : Sta} {Q : T → Sta → Prop} {a : Ty} (h : tyOf S t = some a) (q : Q (.bl (decide (a = .int))) S) : denS W b_is_whole_0 (En0 Q) [some t] S := by
  simp only [b_is_whole_0, wLc2, wDc, wSk, shR, wZip, wsAug, wD2, denS, den, denA, denI, denO, denT, denG, denGs, wsSeq, wsN, wsIf, wsR, wsX, wsAsg, wsFld, wsBrk, wsCnt, wVar, wC, wTup, wLst, wDisp, wDict0, wOp, wChain, wAnd, wOr, wNot, wIf, wSl, wFld, wIsi, wCall, wBm, wApp, wMeth, wMethK, wNew, wNil, wCons, woN, woS, wgN, wgSub, wgTup, wgStar, wgNil, wgCons, wT, wYes, wLc, wIt, wRng1, wRng2, wsFor, wipeE, Bi.run, Bm.run, Bm.ty, List.getElem?_cons_zero, List.getElem?_cons_succ, List.set_cons_zero, List.set_cons_succ, Option.some.injEq, exists_eq_left', tru_bl, List.append_nil]
  refine ⟨a, h, ?_⟩
  cases a <;> simp [isiB, h] <;> exact q
def co_fun_of : Co := Co.of 2 (A := T × T) (fun a => [a.1, a.2]) (fun _ _ => True) (fun a S r S' => S' = S ∧ r = .tup [.str (tx "fun"), a.1, a.2])
theorem st_fun_of {W : Wd} {t u : T} {S : Sta} {Q : T → Sta → Prop} (q : Q (.tup [.str (tx "fun"), t, u]) S) : denS W b_fun_of_0 (En0 Q) [some t, some u] S := by
  simp only [b_fun_of_0, wLc2, wDc, wSk, shR, wZip, wsAug, wD2, denS, den, denA, denI, denO, denT, denG, denGs, wsSeq, wsN, wsIf, wsR, wsX, wsAsg, wsFld, wsBrk, wsCnt, wVar, wC, wTup, wLst, wDisp, wDict0, wOp, wChain, wAnd, wOr, wNot, wIf, wSl, wFld, wIsi, wCall, wBm, wApp, wMeth, wMethK, wNew, wNil, wCons, woN, woS, wgN, wgSub, wgTup, wgStar, wgNil, wgCons, wT, wYes, wLc, wIt, wRng1, wRng2, wsFor, wipeE, Bi.run, Bm.run, Bm.ty, List.getElem?_cons_zero, List.getElem?_cons_succ, List.set_cons_zero, List.set_cons_succ, Option.some.injEq, exists_eq_left', tru_bl, List.append_nil]
  exact ⟨by simp only [List.length_cons, List.length_nil, sizeLine_val]; omega, q⟩
/-! ### kinds -/
/-- how many kinds a name wants -/
abbrev Wn := List (List Nat × Int)
def kvs (ws : Wn) : List (T × T) := ws.map fun p => (.str p.1, .int p.2)
mutual
/-- a kind by these -/
def kindT (ws : Wn) : T → Bool
  | .str x => nameOk x
  | .tup ts => kindU ws ts
  | .non => false
  | .bl _ => false
  | .int _ => false
  | .frz _ => false
  | .obj _ => false
def kindU (ws : Wn) : List T → Bool
  | [] => false
  | h :: ps => match h with
    | .str n => (match ws.lookup n with
      | some m => decide ((ps.length : Int) = m) && kindsT ws ps
      | none => false)
    | _ => false
def kindsT (ws : Wn) : List T → Bool
  | [] => true
  | t :: ts => kindT ws t && kindsT ws ts
end
theorem kindsT_all (ws : Wn) : ∀ ts : List T, kindsT ws ts = ts.all (kindT ws)
  | [] => rfl
  | t :: ts => by rw [List.all_cons, ← kindsT_all ws ts]; simp only [kindsT]
theorem dget_kvs (ws : Wn) (n : List Nat) : dget (kvs ws) (.str n) = (ws.lookup n).map T.int := by
  induction ws with
  | nil => rfl
  | cons p ws ih =>
    obtain ⟨a, b⟩ := p
    unfold dget kvs at *
    rw [List.map_cons, List.find?_cons, List.lookup_cons]
    by_cases e : a = n
    · subst e
      simp [keyEq]
    · have h1 : keyEq (T.str a) (T.str n) = false := decide_eq_false e
      have h2 : (n == a) = false := by simp; exact fun z => e z.symm
      rw [h1, h2]
      exact ih
theorem dep_mem : ∀ {ts : List T} {t : T}, t ∈ ts → dep t ≤ deps ts
  | u :: ts, t, h => by
    unfold deps
    rcases List.mem_cons.mp h with rfl | h
    · exact Nat.le_max_left _ _
    · exact Nat.le_trans (dep_mem h) (Nat.le_max_right _ _)
theorem dep_part {ts : List T} {t : T} (h : t ∈ ts) : dep t < dep (.tup ts) := by
  show dep t < deps ts + 1
  exact Nat.lt_succ_of_le (dep_mem h)
def bookF : List (List Nat) := [tx "wants", tx "constants", tx "meanings", tx "parted", tx "axioms", tx "kept"]
/-- a book at b: its kinds in the dict at w -/
structure BookAt (S : Sta) (b w : Nat) (ws : Wn) : Prop where
  book : ∃ fs, S[b]? = some (.ins (tx "Book") fs) ∧ fs.lookup (tx "wants") = some (.obj w) ∧ fs.map (·.1) = bookF
  wants : S[w]? = some (.dct (kvs ws))
theorem BookAt.ex {S S' : Sta} {b w : Nat} {ws : Wn} (h : BookAt S b w ws) (x : Ex S S') : BookAt S' b w ws := by
  obtain ⟨⟨fs, h1, h2, hF⟩, h3⟩ := h
  exact ⟨⟨fs, x.get h1, h2, hF⟩, x.get h3⟩
/-- need: dep t + 1 -/
def co_is_kind (k : Nat) : Co := Co.of 2 (A := Nat × Nat × Wn × T) (fun a => [.obj a.1, a.2.2.2]) (fun a S => BookAt S a.1 a.2.1 a.2.2.1 ∧ wf S a.2.2.2 = true ∧ dep a.2.2.2 + 1 ≤ k) (fun a S r S' => Ex S S' ∧ r = .bl (kindT a.2.2.1 a.2.2.2))
theorem st_is_kind {W : Wd} {k : Nat} (h16 : W.Γ 16 = co_is_name) (h10 : W.Γ 10 = co_is_kind k) (hn : W.noat (tx "Book") (tx "wants") = true) {b w : Nat} {ws : Wn} {t : T} {S : Sta} {Q : T → Sta → Prop} (hb : BookAt S b w ws) (hw : wf S t = true) (hd : dep t ≤ k)
    (q : ∀ r S', Ex S S' ∧ r = .bl (kindT ws t) → Q r S') : denS W b_is_kind_0 (En0 Q) [some (.obj b), some t, none, none, none] S := by
  simp only [b_is_kind_0, wLc2, wDc, wSk, shR, wZip, wsAug, wD2, denS, den, denA, denI, denO, denT, denG, denGs, wsSeq, wsN, wsIf, wsR, wsX, wsAsg, wsFld, wsBrk, wsCnt, wVar, wC, wTup, wLst, wDisp, wDict0, wOp, wChain, wAnd, wOr, wNot, wIf, wSl, wFld, wIsi, wCall, wBm, wApp, wMeth, wMethK, wNew, wNil, wCons, woN, woS, wgN, wgSub, wgTup, wgStar, wgNil, wgCons, wT, wYes, wLc, wIt, wRng1, wRng2, wsFor, wipeE, Bi.run, Bm.run, Bm.ty, List.getElem?_cons_zero, List.getElem?_cons_succ, List.set_cons_zero, List.set_cons_succ, Option.some.injEq, exists_eq_left', tru_bl, List.append_nil, h16]
  obtain ⟨a, ha⟩ := tyOf_wf hw
  refine ⟨a, ha, ?_⟩
  have name : kindT ws t = nameT t → co_is_name.run [t] S Q := fun e => ⟨t, rfl, hw, fun r S' z => q r S' ⟨z.1, by rw [z.2, e]⟩⟩
  by_cases htup : a = .tuple
  · subst htup
    cases t with
    | tup ts =>
      simp [isiB]
      simp only [b_is_kind_1, wLc2, wDc, wSk, shR, wZip, wsAug, wD2, denS, den, denA, denI, denO, denT, denG, denGs, wsSeq, wsN, wsIf, wsR, wsX, wsAsg, wsFld, wsBrk, wsCnt, wVar, wC, wTup, wLst, wDisp, wDict0, wOp, wChain, wAnd, wOr, wNot, wIf, wSl, wFld, wIsi, wCall, wBm, wApp, wMeth, wMethK, wNew, wNil, wCons, woN, woS, wgN, wgSub, wgTup, wgStar, wgNil, wgCons, wT, wYes, wLc, wIt, wRng1, wRng2, wsFor, wipeE, Bi.run, Bm.run, Bm.ty, List.getElem?_cons_zero, List.getElem?_cons_succ, List.set_cons_zero, List.set_cons_succ, Option.some.injEq, exists_eq_left', tru_bl, List.append_nil]
      obtain ⟨⟨fs, hbk, hfl, _⟩, hwn⟩ := id hb
      have no : kindU ws ts = false → Q (.bl false) S := fun e => q _ _ ⟨.rfl', by simp only [kindT, e]⟩
      cases ts with
      | nil =>
        simp only [cmpG, cmpW, eqW, List.isEmpty_nil, tru_bl, if_true, List.length_nil, Nat.zero_le, true_and]
        exact no rfl
      | cons h ps =>
        simp only [cmpG, cmpW, eqW, List.isEmpty_cons, tru_bl, Bool.false_eq_true, if_false, List.length_nil, Nat.zero_le, true_and]
        have hh : wf S h = true := wfs_mem (wf_tup.mp hw).2 List.mem_cons_self
        refine ixG_tup atI_zero ?_
        obtain ⟨c, hc⟩ := tyOf_wf hh
        refine ⟨c, hc, ?_⟩
        by_cases hstr : c = .str
        · subst hstr
          cases h with
          | str n =>
            simp [isiB]
            refine ixG_tup atI_zero ?_
            simp only [hbk, hfl]
            refine ⟨hn, _, rfl, inW_dct hwn rfl ?_⟩
            rw [dget_kvs]
            cases hl : ws.lookup n with
            | none =>
              simp [tru_bl]
              exact no (by simp only [kindU, hl])
            | some m =>
              simp [tru_bl]
              simp only [b_is_kind_2, wLc2, wDc, wSk, shR, wZip, wsAug, wD2, denS, den, denA, denI, denO, denT, denG, denGs, wsSeq, wsN, wsIf, wsR, wsX, wsAsg, wsFld, wsBrk, wsCnt, wVar, wC, wTup, wLst, wDisp, wDict0, wOp, wChain, wAnd, wOr, wNot, wIf, wSl, wFld, wIsi, wCall, wBm, wApp, wMeth, wMethK, wNew, wNil, wCons, woN, woS, wgN, wgSub, wgTup, wgStar, wgNil, wgCons, wT, wYes, wLc, wIt, wRng1, wRng2, wsFor, wipeE, Bi.run, Bm.run, Bm.ty, List.getElem?_cons_zero, List.getElem?_cons_succ, List.set_cons_zero, List.set_cons_succ, Option.some.injEq, exists_eq_left', tru_bl, List.append_nil, seqOf]
              refine ⟨by decide, by simp, ?_⟩
              simp only [List.length_cons, List.take_succ_cons, List.take_zero, List.drop_succ_cons, List.drop_zero, List.nil_append, List.cons_append, show ps.length + 1 + 1 - 2 = ps.length by omega, List.take_length, List.drop_length, wLc2, wDc, wSk, shR, wZip, wsAug, wD2, denS, den, denA, denI, denO, denT, denG, denGs, wsSeq, wsN, wsIf, wsR, wsX, wsAsg, wsFld, wsBrk, wsCnt, wVar, wC, wTup, wLst, wDisp, wDict0, wOp, wChain, wAnd, wOr, wNot, wIf, wSl, wFld, wIsi, wCall, wBm, wApp, wMeth, wMethK, wNew, wNil, wCons, woN, woS, wgN, wgSub, wgTup, wgStar, wgNil, wgCons, wT, wYes, wLc, wIt, wRng1, wRng2, wsFor, wipeE, Bi.run, Bm.run, Bm.ty, List.getElem?_cons_zero, List.getElem?_cons_succ, List.set_cons_zero, List.set_cons_succ, Option.some.injEq, exists_eq_left', tru_bl, List.append_nil]
              refine ⟨trivial, ?_⟩
              have x1 : Ex S (S ++ [.lst ps]) := Ch.app
              obtain ⟨⟨fs1, hbk1, hfl1, _⟩, hwn1⟩ := hb.ex x1
              simp only [b_is_kind_3, wLc2, wDc, wSk, shR, wZip, wsAug, wD2, denS, den, denA, denI, denO, denT, denG, denGs, wsSeq, wsN, wsIf, wsR, wsX, wsAsg, wsFld, wsBrk, wsCnt, wVar, wC, wTup, wLst, wDisp, wDict0, wOp, wChain, wAnd, wOr, wNot, wIf, wSl, wFld, wIsi, wCall, wBm, wApp, wMeth, wMethK, wNew, wNil, wCons, woN, woS, wgN, wgSub, wgTup, wgStar, wgNil, wgCons, wT, wYes, wLc, wIt, wRng1, wRng2, wsFor, wipeE, Bi.run, Bm.run, Bm.ty, List.getElem?_cons_zero, List.getElem?_cons_succ, List.set_cons_zero, List.set_cons_succ, Option.some.injEq, exists_eq_left', tru_bl, List.append_nil, hbk1, gLen]
              refine lenW_lst get_new ⟨hn, _, hfl1, ixG_dct hwn1 rfl (by rw [dget_kvs, hl]; rfl) ?_⟩
              simp only [cmpG, cmpW, eqW, tru_bl]
              by_cases hm : (ps.length : Int) = m
              · simp only [decide_eq_true hm, if_true, wLc2, wDc, wSk, shR, wZip, wsAug, wD2, denS, den, denA, denI, denO, denT, denG, denGs, wsSeq, wsN, wsIf, wsR, wsX, wsAsg, wsFld, wsBrk, wsCnt, wVar, wC, wTup, wLst, wDisp, wDict0, wOp, wChain, wAnd, wOr, wNot, wIf, wSl, wFld, wIsi, wCall, wBm, wApp, wMeth, wMethK, wNew, wNil, wCons, woN, woS, wgN, wgSub, wgTup, wgStar, wgNil, wgCons, wT, wYes, wLc, wIt, wRng1, wRng2, wsFor, wipeE, Bi.run, Bm.run, Bm.ty, List.getElem?_cons_zero, List.getElem?_cons_succ, List.set_cons_zero, List.set_cons_succ, Option.some.injEq, exists_eq_left', tru_bl, List.append_nil]
                refine iterW_lst get_new (lcW_map (fun t => .bl (kindT ws t)) (fun S' => Ex (S ++ [.lst ps]) S') .rfl' (fun S' x => x.get get_new) ?_ (fun y S' hy x => ?_) (fun S' x => ?_) (mono_den W _))
                · have := (wf_tup.mp hw).1
                  rw [List.length_cons] at this
                  rw [sizeLine_val]
                  omega
                · refine ⟨_, bd_nm _ _ _ _, ?_⟩
                  simp only [x_is_kind_3_e0, wLc2, wDc, wSk, shR, wZip, wsAug, wD2, denS, den, denA, denI, denO, denT, denG, denGs, wsSeq, wsN, wsIf, wsR, wsX, wsAsg, wsFld, wsBrk, wsCnt, wVar, wC, wTup, wLst, wDisp, wDict0, wOp, wChain, wAnd, wOr, wNot, wIf, wSl, wFld, wIsi, wCall, wBm, wApp, wMeth, wMethK, wNew, wNil, wCons, woN, woS, wgN, wgSub, wgTup, wgStar, wgNil, wgCons, wT, wYes, wLc, wIt, wRng1, wRng2, wsFor, wipeE, Bi.run, Bm.run, Bm.ty, List.getElem?_cons_zero, List.getElem?_cons_succ, List.set_cons_zero, List.set_cons_succ, Option.some.injEq, exists_eq_left', tru_bl, List.append_nil, h10]
                  have hd2 : dep y + 1 ≤ k := by
                    have := dep_part (ts := .str n :: ps) (List.mem_cons_of_mem _ hy)
                    omega
                  refine ⟨rfl, (b, w, ws, y), rfl, ⟨(hb.ex x1).ex x, wf_mono (x1.trans' x) (wfs_mem (wf_tup.mp hw).2 (List.mem_cons_of_mem _ hy)), hd2⟩, fun r S2 z => ⟨z.2, x.trans' z.1⟩⟩
                · refine gAll_new (boolsOf_map (kindT ws) ps) (q _ _ ⟨(x1.trans' x).trans' .app, ?_⟩)
                  simp only [kindT, kindU, hl, decide_eq_true hm, Bool.true_and, kindsT_all, map_all]
              · simp only [decide_eq_false hm, Bool.false_eq_true, if_false]
                exact q _ _ ⟨x1, by simp only [kindT, kindU, hl, decide_eq_false hm, Bool.false_and]⟩
          | obj i =>
            simp only [tyOf] at hc
            split at hc <;> cases hc
          | _ => cases hc
        · have : isiB c .str = false := by cases c <;> first | rfl | exact absurd rfl hstr
          simp [this]
          refine no ?_
          cases h with
          | str n => cases hc; exact absurd rfl hstr
          | _ => rfl
    | obj i =>
      simp only [tyOf] at ha
      split at ha <;> cases ha
    | _ => cases ha
  · have : isiB a .tuple = false := by cases a <;> first | rfl | exact absurd rfl htup
    simp [this]
    refine ⟨rfl, name ?_⟩
    cases t with
    | tup ts => cases ha; exact absurd rfl htup
    | _ => rfl
end TR
set_option Elab.async false
set_option linter.all false
set_option maxRecDepth 100000
set_option maxHeartbeats 2000000
/-! TK2: kinds by own looking. -/
namespace TR
open PySem PySem.Spec L2
open PyProof.Rows hiding St

/-- need: dep t + 1 -/
def co_judged (k : Nat) : Co := Co.of 2 (A := Nat × Wn × T) (fun a => [.obj a.1, a.2.2]) (fun a S => S[a.1]? = some (.dct (kvs a.2.1)) ∧ wf S a.2.2 = true ∧ dep a.2.2 + 1 ≤ k) (fun a S r S' => Ex S S' ∧ r = .bl (kindT a.2.1 a.2.2))
theorem st_judged {W : Wd} {k : Nat} (h14 : W.Γ 14 = co_is_name) (h7 : W.Γ 7 = co_judged k) {w : Nat} {ws : Wn} {t : T} {S : Sta} {Q : T → Sta → Prop} (hwn : S[w]? = some (.dct (kvs ws))) (hw : wf S t = true) (hd : dep t ≤ k)
    (q : ∀ r S', Ex S S' ∧ r = .bl (kindT ws t) → Q r S') : denS W b_law_judged_0 (En0 Q) [some (.obj w), some t, none] S := by
  simp only [b_law_judged_0, wLc2, wDc, wSk, shR, wZip, wsAug, wD2, denS, den, denA, denI, denO, denT, denG, denGs, wsSeq, wsN, wsIf, wsR, wsX, wsAsg, wsFld, wsBrk, wsCnt, wVar, wC, wTup, wLst, wDisp, wDict0, wOp, wChain, wAnd, wOr, wNot, wIf, wSl, wFld, wIsi, wCall, wBm, wApp, wMeth, wMethK, wNew, wNil, wCons, woN, woS, wgN, wgSub, wgTup, wgStar, wgNil, wgCons, wT, wYes, wLc, wIt, wRng1, wRng2, wsFor, wipeE, Bi.run, Bm.run, Bm.ty, List.getElem?_cons_zero, List.getElem?_cons_succ, List.set_cons_zero, List.set_cons_succ, Option.some.injEq, exists_eq_left', tru_bl, List.append_nil, h14]
  obtain ⟨a, ha⟩ := tyOf_wf hw
  refine ⟨a, ha, ?_⟩
  have name : kindT ws t = nameT t → co_is_name.run [t] S Q := fun e => ⟨t, rfl, hw, fun r S' z => q r S' ⟨z.1, by rw [z.2, e]⟩⟩
  by_cases htup : a = .tuple
  · subst htup
    cases t with
    | tup ts =>
      simp [isiB]
      have no : kindU ws ts = false → Q (.bl false) S := fun e => q _ _ ⟨.rfl', by simp only [kindT, e]⟩
      cases ts with
      | nil =>
        simp only [b_law_judged_1, wLc2, wDc, wSk, shR, wZip, wsAug, wD2, denS, den, denA, denI, denO, denT, denG, denGs, wsSeq, wsN, wsIf, wsR, wsX, wsAsg, wsFld, wsBrk, wsCnt, wVar, wC, wTup, wLst, wDisp, wDict0, wOp, wChain, wAnd, wOr, wNot, wIf, wSl, wFld, wIsi, wCall, wBm, wApp, wMeth, wMethK, wNew, wNil, wCons, woN, woS, wgN, wgSub, wgTup, wgStar, wgNil, wgCons, wT, wYes, wLc, wIt, wRng1, wRng2, wsFor, wipeE, Bi.run, Bm.run, Bm.ty, List.getElem?_cons_zero, List.getElem?_cons_succ, List.set_cons_zero, List.set_cons_succ, Option.some.injEq, exists_eq_left', tru_bl, List.append_nil, gLen, lenW, cmpG, cmpW, eqW, List.length_nil]
        simp
        exact no rfl
      | cons h ps =>
        simp only [b_law_judged_1, wLc2, wDc, wSk, shR, wZip, wsAug, wD2, denS, den, denA, denI, denO, denT, denG, denGs, wsSeq, wsN, wsIf, wsR, wsX, wsAsg, wsFld, wsBrk, wsCnt, wVar, wC, wTup, wLst, wDisp, wDict0, wOp, wChain, wAnd, wOr, wNot, wIf, wSl, wFld, wIsi, wCall, wBm, wApp, wMeth, wMethK, wNew, wNil, wCons, woN, woS, wgN, wgSub, wgTup, wgStar, wgNil, wgCons, wT, wYes, wLc, wIt, wRng1, wRng2, wsFor, wipeE, Bi.run, Bm.run, Bm.ty, List.getElem?_cons_zero, List.getElem?_cons_succ, List.set_cons_zero, List.set_cons_succ, Option.some.injEq, exists_eq_left', tru_bl, List.append_nil, gLen, lenW, cmpG, cmpW, eqW, List.length_cons]
        have e0 : decide (((ps.length + 1 : Nat) : Int) = 0) = false := decide_eq_false (by omega)
        simp only [e0, tru_bl, Bool.false_eq_true, if_false]
        have hh : wf S h = true := wfs_mem (wf_tup.mp hw).2 List.mem_cons_self
        refine ixG_tup atI_zero ?_
        obtain ⟨c, hc⟩ := tyOf_wf hh
        refine ⟨c, hc, ?_⟩
        by_cases hstr : c = .str
        · subst hstr
          cases h with
          | str n =>
            simp [isiB]
            refine ixG_tup atI_zero (inW_dct hwn rfl ?_)
            rw [dget_kvs]
            cases hl : ws.lookup n with
            | none =>
              simp [tru_bl]
              exact no (by simp only [kindU, hl])
            | some m =>
              simp [tru_bl]
              simp only [b_law_judged_2, wLc2, wDc, wSk, shR, wZip, wsAug, wD2, denS, den, denA, denI, denO, denT, denG, denGs, wsSeq, wsN, wsIf, wsR, wsX, wsAsg, wsFld, wsBrk, wsCnt, wVar, wC, wTup, wLst, wDisp, wDict0, wOp, wChain, wAnd, wOr, wNot, wIf, wSl, wFld, wIsi, wCall, wBm, wApp, wMeth, wMethK, wNew, wNil, wCons, woN, woS, wgN, wgSub, wgTup, wgStar, wgNil, wgCons, wT, wYes, wLc, wIt, wRng1, wRng2, wsFor, wipeE, Bi.run, Bm.run, Bm.ty, List.getElem?_cons_zero, List.getElem?_cons_succ, List.set_cons_zero, List.set_cons_succ, Option.some.injEq, exists_eq_left', tru_bl, List.append_nil, gLen, lenW, binop, List.length_cons]
              refine ixG_tup atI_zero (ixG_dct hwn rfl (by rw [dget_kvs, hl]; rfl) (cg_ne_int ?_))
              have em : decide (((ps.length + 1 : Nat) : Int) - 1 = m) = decide ((ps.length : Int) = m) := by
                congr 1
                exact propext ⟨fun z => by omega, fun z => by omega⟩
              rw [em]
              by_cases hm : (ps.length : Int) = m
              · simp only [decide_eq_true hm, Bool.not_true, tru_bl, Bool.false_eq_true, if_false]
                simp only [b_law_judged_3, wLc2, wDc, wSk, shR, wZip, wsAug, wD2, denS, den, denA, denI, denO, denT, denG, denGs, wsSeq, wsN, wsIf, wsR, wsX, wsAsg, wsFld, wsBrk, wsCnt, wVar, wC, wTup, wLst, wDisp, wDict0, wOp, wChain, wAnd, wOr, wNot, wIf, wSl, wFld, wIsi, wCall, wBm, wApp, wMeth, wMethK, wNew, wNil, wCons, woN, woS, wgN, wgSub, wgTup, wgStar, wgNil, wgCons, wT, wYes, wLc, wIt, wRng1, wRng2, wsFor, wipeE, Bi.run, Bm.run, Bm.ty, List.getElem?_cons_zero, List.getElem?_cons_succ, List.set_cons_zero, List.set_cons_succ, Option.some.injEq, exists_eq_left', tru_bl, List.append_nil, slG, cut_tail]
                refine iterW_tup (lcW_map (fun t => .bl (kindT ws t)) (fun S' => Ex S S') .rfl' (fun _ _ => trivial) ?_ (fun y S' hy x => ?_) (fun S' x => ?_) (mono_den W _))
                · have := (wf_tup.mp hw).1
                  rw [List.length_cons] at this
                  rw [sizeLine_val]
                  omega
                · refine ⟨_, bd_nm _ _ _ _, ?_⟩
                  simp only [x_law_judged_3_e0, wLc2, wDc, wSk, shR, wZip, wsAug, wD2, denS, den, denA, denI, denO, denT, denG, denGs, wsSeq, wsN, wsIf, wsR, wsX, wsAsg, wsFld, wsBrk, wsCnt, wVar, wC, wTup, wLst, wDisp, wDict0, wOp, wChain, wAnd, wOr, wNot, wIf, wSl, wFld, wIsi, wCall, wBm, wApp, wMeth, wMethK, wNew, wNil, wCons, woN, woS, wgN, wgSub, wgTup, wgStar, wgNil, wgCons, wT, wYes, wLc, wIt, wRng1, wRng2, wsFor, wipeE, Bi.run, Bm.run, Bm.ty, List.getElem?_cons_zero, List.getElem?_cons_succ, List.set_cons_zero, List.set_cons_succ, Option.some.injEq, exists_eq_left', tru_bl, List.append_nil, h7]
                  have hd2 : dep y + 1 ≤ k := by
                    have := dep_part (ts := .str n :: ps) (List.mem_cons_of_mem _ hy)
                    omega
                  exact ⟨rfl, (w, ws, y), rfl, ⟨x.get hwn, wf_mono x (wfs_mem (wf_tup.mp hw).2 (List.mem_cons_of_mem _ hy)), hd2⟩, fun r S2 z => ⟨z.2, x.trans' z.1⟩⟩
                · refine gAll_new (boolsOf_map (kindT ws) ps) (q _ _ ⟨x.trans' .app, ?_⟩)
                  simp only [kindT, kindU, hl, decide_eq_true hm, Bool.true_and, kindsT_all, map_all]
              · simp only [decide_eq_false hm, Bool.not_false, tru_bl, if_true]
                exact no (by simp only [kindU, hl, decide_eq_false hm, Bool.false_and])
          | obj i =>
            simp only [tyOf] at hc
            split at hc <;> cases hc
          | _ => cases hc
        · have : isiB c .str = false := by cases c <;> first | rfl | exact absurd rfl hstr
          simp [this]
          refine no ?_
          cases h with
          | str n => cases hc; exact absurd rfl hstr
          | _ => rfl
    | obj i =>
      simp only [tyOf] at ha
      split at ha <;> cases ha
    | _ => cases ha
  · have : isiB a .tuple = false := by cases a <;> first | rfl | exact absurd rfl htup
    simp [this]
    refine ⟨rfl, name ?_⟩
    cases t with
    | tup ts => cases ha; exact absurd rfl htup
    | _ => rfl

/-! ### pools -/
def PoolAt (S : Sta) (p : Nat) : Prop := ∃ a d n : Int, S[p]? = some (.lst [.int a, .int d, .int n])
theorem PoolAt.ex {S S' : Sta} {p : Nat} (h : PoolAt S p) (x : Ex S S') : PoolAt S' p := let ⟨a, d, n, e⟩ := h; ⟨a, d, n, x.get e⟩
/-- only the pool changes -/
abbrev Pc (p : Nat) (S S' : Sta) : Prop := Ch (fun i => i = p) S S'
def co_take : Co := Co.of 2 (A := Nat × Int) (fun a => [.obj a.1, .int a.2]) (fun a S => PoolAt S a.1 ∧ 0 < a.2 ∧ a.2 < 2 ^ 62) (fun a S r S' => Pc a.1 S S' ∧ PoolAt S' a.1 ∧ ∃ i : Int, r = .int i ∧ 0 ≤ i ∧ i < a.2)
theorem st_take {W : Wd} {p : Nat} {n : Int} {S : Sta} {Q : T → Sta → Prop} (hp : PoolAt S p) (h0 : 0 < n) (h1 : n < 2 ^ 62) (q : ∀ r S', (Pc p S S' ∧ PoolAt S' p ∧ ∃ i : Int, r = .int i ∧ 0 ≤ i ∧ i < n) → Q r S') :
    denS W b_law_take_0 (En0 Q) [some (.obj p), some (.int n), none, none] S := by
  obtain ⟨a, d, c, e⟩ := hp
  simp only [b_law_take_0, wLc2, wDc, wSk, shR, wZip, wsAug, wD2, denS, den, denA, denI, denO, denT, denG, denGs, wsSeq, wsN, wsIf, wsR, wsX, wsAsg, wsFld, wsBrk, wsCnt, wVar, wC, wTup, wLst, wDisp, wDict0, wOp, wChain, wAnd, wOr, wNot, wIf, wSl, wFld, wIsi, wCall, wBm, wApp, wMeth, wMethK, wNew, wNil, wCons, woN, woS, wgN, wgSub, wgTup, wgStar, wgNil, wgCons, wT, wYes, wLc, wIt, wRng1, wRng2, wsFor, wipeE, Bi.run, Bm.run, Bm.ty, List.getElem?_cons_zero, List.getElem?_cons_succ, List.set_cons_zero, List.set_cons_succ, Option.some.injEq, exists_eq_left', tru_bl, List.append_nil]
  refine ixG_lst e (by rfl) (bin_add (setW_lst (n := 2) e (by rfl) ?_))
  have e1 := get_set (c := .lst [.int a, .int d, .int (c + 1)]) e
  have k1 : Pc p S (S.set p (.lst [.int a, .int d, .int (c + 1)])) := Ch.set (fun _ => rfl) (by rw [e]; rfl)
  simp only [List.set_cons_succ, List.set_cons_zero]
  generalize S.set p (.lst [.int a, .int d, .int (c + 1)]) = S1 at e1 k1 ⊢
  simp only [b_law_take_1, wLc2, wDc, wSk, shR, wZip, wsAug, wD2, denS, den, denA, denI, denO, denT, denG, denGs, wsSeq, wsN, wsIf, wsR, wsX, wsAsg, wsFld, wsBrk, wsCnt, wVar, wC, wTup, wLst, wDisp, wDict0, wOp, wChain, wAnd, wOr, wNot, wIf, wSl, wFld, wIsi, wCall, wBm, wApp, wMeth, wMethK, wNew, wNil, wCons, woN, woS, wgN, wgSub, wgTup, wgStar, wgNil, wgCons, wT, wYes, wLc, wIt, wRng1, wRng2, wsFor, wipeE, Bi.run, Bm.run, Bm.ty, List.getElem?_cons_zero, List.getElem?_cons_succ, List.set_cons_zero, List.set_cons_succ, Option.some.injEq, exists_eq_left', tru_bl, List.append_nil]
  refine ixG_lst e1 (by rfl) ?_
  simp only [b_law_take_2, wLc2, wDc, wSk, shR, wZip, wsAug, wD2, denS, den, denA, denI, denO, denT, denG, denGs, wsSeq, wsN, wsIf, wsR, wsX, wsAsg, wsFld, wsBrk, wsCnt, wVar, wC, wTup, wLst, wDisp, wDict0, wOp, wChain, wAnd, wOr, wNot, wIf, wSl, wFld, wIsi, wCall, wBm, wApp, wMeth, wMethK, wNew, wNil, wCons, woN, woS, wgN, wgSub, wgTup, wgStar, wgNil, wgCons, wT, wYes, wLc, wIt, wRng1, wRng2, wsFor, wipeE, Bi.run, Bm.run, Bm.ty, List.getElem?_cons_zero, List.getElem?_cons_succ, List.set_cons_zero, List.set_cons_succ, Option.some.injEq, exists_eq_left', tru_bl, List.append_nil]
  have hm := Int.emod_nonneg a (show (46021 : Int) ≠ 0 by decide)
  have hm2 := Int.emod_lt_of_pos a (show (0 : Int) < 46021 by decide)
  refine bin_mod (by decide) (bin_add (bin_mul_r (by omega) (ixG_lst e1 (by rfl) (bin_mul_l (by decide) (bin_add (bin_mod (by decide) (setW_lst (n := 0) e1 (by rfl) ?_)))))))
  generalize (a * (a % 46021 + 32009) + 90017 * (c + 1)) % 2147483549 = a2
  have e2 := get_set (c := .lst [.int a2, .int d, .int (c + 1)]) e1
  have k2 : Pc p S (S1.set p (.lst [.int a2, .int d, .int (c + 1)])) := k1.trans (Ch.set (w := fun i => i = p) (fun _ => rfl) (by rw [e1]; rfl)) fun _ _ z => z
  simp only [List.set_cons_succ, List.set_cons_zero]
  generalize S1.set p (.lst [.int a2, .int d, .int (c + 1)]) = S2 at e2 k2 ⊢
  simp only [b_law_take_3, wLc2, wDc, wSk, shR, wZip, wsAug, wD2, denS, den, denA, denI, denO, denT, denG, denGs, wsSeq, wsN, wsIf, wsR, wsX, wsAsg, wsFld, wsBrk, wsCnt, wVar, wC, wTup, wLst, wDisp, wDict0, wOp, wChain, wAnd, wOr, wNot, wIf, wSl, wFld, wIsi, wCall, wBm, wApp, wMeth, wMethK, wNew, wNil, wCons, woN, woS, wgN, wgSub, wgTup, wgStar, wgNil, wgCons, wT, wYes, wLc, wIt, wRng1, wRng2, wsFor, wipeE, Bi.run, Bm.run, Bm.ty, List.getElem?_cons_zero, List.getElem?_cons_succ, List.set_cons_zero, List.set_cons_succ, Option.some.injEq, exists_eq_left', tru_bl, List.append_nil]
  refine ixG_lst e2 (by rfl) (cg_gt ?_)
  simp only [tru_bl]
  by_cases hd : (0 : Int) < d
  · simp only [decide_eq_true hd, if_true]
    simp only [b_law_take_3t_0, wLc2, wDc, wSk, shR, wZip, wsAug, wD2, denS, den, denA, denI, denO, denT, denG, denGs, wsSeq, wsN, wsIf, wsR, wsX, wsAsg, wsFld, wsBrk, wsCnt, wVar, wC, wTup, wLst, wDisp, wDict0, wOp, wChain, wAnd, wOr, wNot, wIf, wSl, wFld, wIsi, wCall, wBm, wApp, wMeth, wMethK, wNew, wNil, wCons, woN, woS, wgN, wgSub, wgTup, wgStar, wgNil, wgCons, wT, wYes, wLc, wIt, wRng1, wRng2, wsFor, wipeE, Bi.run, Bm.run, Bm.ty, List.getElem?_cons_zero, List.getElem?_cons_succ, List.set_cons_zero, List.set_cons_succ, Option.some.injEq, exists_eq_left', tru_bl, List.append_nil]
    refine ixG_lst e2 (by rfl) (gDivmod_ok h0 h1 ?_)
    refine ⟨rfl, setW_lst (n := 1) e2 (by rfl) ?_⟩
    have e3 := get_set (c := .lst [.int a2, .int (d / n), .int (c + 1)]) e2
    have k3 : Pc p S (S2.set p (.lst [.int a2, .int (d / n), .int (c + 1)])) := k2.trans (Ch.set (w := fun i => i = p) (fun _ => rfl) (by rw [e2]; rfl)) fun _ _ z => z
    simp only [List.set_cons_succ, List.set_cons_zero]
    generalize S2.set p (.lst [.int a2, .int (d / n), .int (c + 1)]) = S3 at e3 k3 ⊢
    refine ⟨trivial, ?_⟩
    simp only [b_law_take_3t_1, wLc2, wDc, wSk, shR, wZip, wsAug, wD2, denS, den, denA, denI, denO, denT, denG, denGs, wsSeq, wsN, wsIf, wsR, wsX, wsAsg, wsFld, wsBrk, wsCnt, wVar, wC, wTup, wLst, wDisp, wDict0, wOp, wChain, wAnd, wOr, wNot, wIf, wSl, wFld, wIsi, wCall, wBm, wApp, wMeth, wMethK, wNew, wNil, wCons, woN, woS, wgN, wgSub, wgTup, wgStar, wgNil, wgCons, wT, wYes, wLc, wIt, wRng1, wRng2, wsFor, wipeE, Bi.run, Bm.run, Bm.ty, List.getElem?_cons_zero, List.getElem?_cons_succ, List.set_cons_zero, List.set_cons_succ, Option.some.injEq, exists_eq_left', tru_bl, List.append_nil]
    exact q _ _ ⟨k3, ⟨_, _, _, e3⟩, _, rfl, Int.emod_nonneg _ (by omega), Int.emod_lt_of_pos _ h0⟩
  · simp only [decide_eq_false hd, Bool.false_eq_true, if_false]
    simp only [b_law_take_4, wLc2, wDc, wSk, shR, wZip, wsAug, wD2, denS, den, denA, denI, denO, denT, denG, denGs, wsSeq, wsN, wsIf, wsR, wsX, wsAsg, wsFld, wsBrk, wsCnt, wVar, wC, wTup, wLst, wDisp, wDict0, wOp, wChain, wAnd, wOr, wNot, wIf, wSl, wFld, wIsi, wCall, wBm, wApp, wMeth, wMethK, wNew, wNil, wCons, woN, woS, wgN, wgSub, wgTup, wgStar, wgNil, wgCons, wT, wYes, wLc, wIt, wRng1, wRng2, wsFor, wipeE, Bi.run, Bm.run, Bm.ty, List.getElem?_cons_zero, List.getElem?_cons_succ, List.set_cons_zero, List.set_cons_succ, Option.some.injEq, exists_eq_left', tru_bl, List.append_nil]
    refine ixG_lst e2 (by rfl) (bin_div (by decide) (bin_mod h0 ?_))
    exact q _ _ ⟨k2, ⟨_, _, _, e2⟩, _, rfl, Int.emod_nonneg _ (by omega), Int.emod_lt_of_pos _ h0⟩
end TR
set_option Elab.async false
set_option linter.all false
set_option maxRecDepth 100000
set_option maxHeartbeats 2000000
/-! TK3: cells of the script, pools, names. -/
namespace TR
open PySem PySem.Spec L2
open PyProof.Rows hiding St

def co_pool : Co := Co.of 1 (A := Int) (fun i => [.int i]) (fun _ _ => True) (fun _ S r S' => Ex S S' ∧ ∃ p, r = .obj p ∧ S.length ≤ p ∧ PoolAt S' p)
theorem st_pool {W : Wd} {i : Int} {S : Sta} {Q : T → Sta → Prop} (q : ∀ r S', (Ex S S' ∧ ∃ p, r = .obj p ∧ S.length ≤ p ∧ PoolAt S' p) → Q r S') : denS W b_law_pool_0 (En0 Q) [some (.int i), none] S := by
  have fin : ∀ d : Int, denS W b_law_pool_2 (En0 Q) [some (.int i), some (.int d)] S := fun d => by
    simp only [b_law_pool_2, wLc2, wDc, wSk, shR, wZip, wsAug, wD2, denS, den, denA, denI, denO, denT, denG, denGs, wsSeq, wsN, wsIf, wsR, wsX, wsAsg, wsFld, wsBrk, wsCnt, wVar, wC, wTup, wLst, wDisp, wDict0, wOp, wChain, wAnd, wOr, wNot, wIf, wSl, wFld, wIsi, wCall, wBm, wApp, wMeth, wMethK, wNew, wNil, wCons, woN, woS, wgN, wgSub, wgTup, wgStar, wgNil, wgCons, wT, wYes, wLc, wIt, wRng1, wRng2, wsFor, wipeE, Bi.run, Bm.run, Bm.ty, List.getElem?_cons_zero, List.getElem?_cons_succ, List.set_cons_zero, List.set_cons_succ, Option.some.injEq, exists_eq_left', tru_bl, List.append_nil]
    refine bin_mod (by decide) ⟨by simp [sizeLine_val], q _ _ ⟨.app, _, rfl, Nat.le_refl _, _, _, _, get_new⟩⟩
  simp only [b_law_pool_0, wLc2, wDc, wSk, shR, wZip, wsAug, wD2, denS, den, denA, denI, denO, denT, denG, denGs, wsSeq, wsN, wsIf, wsR, wsX, wsAsg, wsFld, wsBrk, wsCnt, wVar, wC, wTup, wLst, wDisp, wDict0, wOp, wChain, wAnd, wOr, wNot, wIf, wSl, wFld, wIsi, wCall, wBm, wApp, wMeth, wMethK, wNew, wNil, wCons, woN, woS, wgN, wgSub, wgTup, wgStar, wgNil, wgCons, wT, wYes, wLc, wIt, wRng1, wRng2, wsFor, wipeE, Bi.run, Bm.run, Bm.ty, List.getElem?_cons_zero, List.getElem?_cons_succ, List.set_cons_zero, List.set_cons_succ, Option.some.injEq, exists_eq_left', tru_bl, List.append_nil]
  simp only [b_law_pool_1, wLc2, wDc, wSk, shR, wZip, wsAug, wD2, denS, den, denA, denI, denO, denT, denG, denGs, wsSeq, wsN, wsIf, wsR, wsX, wsAsg, wsFld, wsBrk, wsCnt, wVar, wC, wTup, wLst, wDisp, wDict0, wOp, wChain, wAnd, wOr, wNot, wIf, wSl, wFld, wIsi, wCall, wBm, wApp, wMeth, wMethK, wNew, wNil, wCons, woN, woS, wgN, wgSub, wgTup, wgStar, wgNil, wgCons, wT, wYes, wLc, wIt, wRng1, wRng2, wsFor, wipeE, Bi.run, Bm.run, Bm.ty, List.getElem?_cons_zero, List.getElem?_cons_succ, List.set_cons_zero, List.set_cons_succ, Option.some.injEq, exists_eq_left', tru_bl, List.append_nil]
  refine cg_lt ?_
  simp only [tru_bl]
  have abs : gAbs [.int i] S fun t S1 => denS W b_law_pool_2 (En0 Q) [some (.int i), some t] S1 := gAbs_ok fun j => fin j
  by_cases h : i < 0
  · simp only [decide_eq_true h, if_true, tru_bl]
    exact abs
  · simp only [decide_eq_false h, Bool.false_eq_true, if_false]
    refine ⟨⟨by decide, by decide, by decide⟩, cg_ge ?_⟩
    simp only [tru_bl]
    split
    · exact abs
    · exact fin 0
def co_cell : Co := Co.of 2 (A := List Int × Int) (fun a => [.frz (a.1.map .int), .int a.2]) (fun a _ => 0 ≤ a.2 ∧ a.2 < 2 ^ 30) (fun _ S r S' => Ex S S' ∧ ∃ i, r = .int i)
theorem st_cell {W : Wd} {ns : List Int} {k : Int} {S : Sta} {Q : T → Sta → Prop} (h0 : 0 ≤ k) (h1 : k < 2 ^ 30) (q : ∀ r S', (Ex S S' ∧ ∃ i, r = .int i) → Q r S') : denS W b_law_cell_0 (En0 Q) [some (.frz (ns.map .int)), some (.int k), none, none] S := by
  simp only [b_law_cell_0, wLc2, wDc, wSk, shR, wZip, wsAug, wD2, denS, den, denA, denI, denO, denT, denG, denGs, wsSeq, wsN, wsIf, wsR, wsX, wsAsg, wsFld, wsBrk, wsCnt, wVar, wC, wTup, wLst, wDisp, wDict0, wOp, wChain, wAnd, wOr, wNot, wIf, wSl, wFld, wIsi, wCall, wBm, wApp, wMeth, wMethK, wNew, wNil, wCons, woN, woS, wgN, wgSub, wgTup, wgStar, wgNil, wgCons, wT, wYes, wLc, wIt, wRng1, wRng2, wsFor, wipeE, Bi.run, Bm.run, Bm.ty, List.getElem?_cons_zero, List.getElem?_cons_succ, List.set_cons_zero, List.set_cons_succ, Option.some.injEq, exists_eq_left', tru_bl, List.append_nil, gLen, lenW, List.length_map]
  refine cg_lt ?_
  simp only [tru_bl]
  by_cases hk : k < (ns.length : Int)
  · simp only [decide_eq_true hk, if_true]
    have hn : k.toNat < ns.length := by omega
    refine ixG_frz (t := .int ns[k.toNat]) ?_ (q _ _ ⟨.rfl', _, rfl⟩)
    have := atI_nat (xs := ns.map T.int) (n := k.toNat) (t := .int ns[k.toNat]) (by simp [hn])
    rwa [Int.toNat_of_nonneg h0] at this
  · simp only [decide_eq_false hk, Bool.false_eq_true, if_false]
    simp only [b_law_cell_1, wLc2, wDc, wSk, shR, wZip, wsAug, wD2, denS, den, denA, denI, denO, denT, denG, denGs, wsSeq, wsN, wsIf, wsR, wsX, wsAsg, wsFld, wsBrk, wsCnt, wVar, wC, wTup, wLst, wDisp, wDict0, wOp, wChain, wAnd, wOr, wNot, wIf, wSl, wFld, wIsi, wCall, wBm, wApp, wMeth, wMethK, wNew, wNil, wCons, woN, woS, wgN, wgSub, wgTup, wgStar, wgNil, wgCons, wT, wYes, wLc, wIt, wRng1, wRng2, wsFor, wipeE, Bi.run, Bm.run, Bm.ty, List.getElem?_cons_zero, List.getElem?_cons_succ, List.set_cons_zero, List.set_cons_succ, Option.some.injEq, exists_eq_left', tru_bl, List.append_nil]
    refine bin_mul_l (by omega) (bin_mul_l (by decide) (bin_add (bin_add (bin_mul_l (by decide) (bin_mod (by decide) ?_)))))
    generalize (70001 * (k * k + 11 * k + 3) % 2147483549 : Int) = a
    simp only [b_law_cell_2, wLc2, wDc, wSk, shR, wZip, wsAug, wD2, denS, den, denA, denI, denO, denT, denG, denGs, wsSeq, wsN, wsIf, wsR, wsX, wsAsg, wsFld, wsBrk, wsCnt, wVar, wC, wTup, wLst, wDisp, wDict0, wOp, wChain, wAnd, wOr, wNot, wIf, wSl, wFld, wIsi, wCall, wBm, wApp, wMeth, wMethK, wNew, wNil, wCons, woN, woS, wgN, wgSub, wgTup, wgStar, wgNil, wgCons, wT, wYes, wLc, wIt, wRng1, wRng2, wsFor, wipeE, Bi.run, Bm.run, Bm.ty, List.getElem?_cons_zero, List.getElem?_cons_succ, List.set_cons_zero, List.set_cons_succ, Option.some.injEq, exists_eq_left', tru_bl, List.append_nil, slG]
    refine iterW_lst get_new (forW_by (fun _ ρ S' => Ex S S' ∧ S'[S.length]? = some (.lst (cutL (ns.map .int) none (some 3))) ∧ ∃ (a : Int) (o : Option T), ρ = [some (.frz (ns.map .int)), some (.int k), some (.int a), o]) ⟨.app, get_new, a, _, rfl⟩ (fun _ _ _ h => h.2.1) (fun i x ρ S' e h => ?_) (fun ρ S' h => ?_) (mono_denS W _))
    · obtain ⟨x1, e1, a, o, rfl⟩ := h
      have hx : x ∈ ns.map T.int := by
        have := List.mem_of_getElem? e
        unfold cutL at this
        exact List.mem_of_mem_drop (List.mem_of_mem_take this)
      obtain ⟨j, _, rfl⟩ := List.mem_map.mp hx
      refine ⟨_, bd_nm _ _ _ _, ?_⟩
      simp only [b_law_cell_2l_0, wLc2, wDc, wSk, shR, wZip, wsAug, wD2, denS, den, denA, denI, denO, denT, denG, denGs, wsSeq, wsN, wsIf, wsR, wsX, wsAsg, wsFld, wsBrk, wsCnt, wVar, wC, wTup, wLst, wDisp, wDict0, wOp, wChain, wAnd, wOr, wNot, wIf, wSl, wFld, wIsi, wCall, wBm, wApp, wMeth, wMethK, wNew, wNil, wCons, woN, woS, wgN, wgSub, wgTup, wgStar, wgNil, wgCons, wT, wYes, wLc, wIt, wRng1, wRng2, wsFor, wipeE, Bi.run, Bm.run, Bm.ty, List.getElem?_cons_zero, List.getElem?_cons_succ, List.set_cons_zero, List.set_cons_succ, Option.some.injEq, exists_eq_left', tru_bl, List.append_nil]
      exact bin_mul_r (by decide) (bin_add (bin_mod (by decide) ⟨x1, e1, _, _, rfl⟩))
    · obtain ⟨x1, _, a, o, rfl⟩ := h
      simp only [b_law_cell_3, wLc2, wDc, wSk, shR, wZip, wsAug, wD2, denS, den, denA, denI, denO, denT, denG, denGs, wsSeq, wsN, wsIf, wsR, wsX, wsAsg, wsFld, wsBrk, wsCnt, wVar, wC, wTup, wLst, wDisp, wDict0, wOp, wChain, wAnd, wOr, wNot, wIf, wSl, wFld, wIsi, wCall, wBm, wApp, wMeth, wMethK, wNew, wNil, wCons, woN, woS, wgN, wgSub, wgTup, wgStar, wgNil, wgCons, wT, wYes, wLc, wIt, wRng1, wRng2, wsFor, wipeE, Bi.run, Bm.run, Bm.ty, List.getElem?_cons_zero, List.getElem?_cons_succ, List.set_cons_zero, List.set_cons_succ, Option.some.injEq, exists_eq_left', tru_bl, List.append_nil]
      exact q _ _ ⟨x1, _, rfl⟩
/-! ### names -/
def NamesAt (S : Sta) (l : Nat) : Prop := ∃ xs : List (List Nat), S[l]? = some (.lst (xs.map T.str)) ∧ xs.length = 12 ∧ ∀ x ∈ xs, nameOk x = true
theorem do_take {S : Sta} {K : T → Sta → Prop} {p : Nat} {n : Int} (hp : PoolAt S p) (h0 : 0 < n) (h1 : n < 2 ^ 62) (q : ∀ (i : Int) (S' : Sta), Pc p S S' → PoolAt S' p → 0 ≤ i → i < n → K (.int i) S') : [T.obj p, T.int n].length = co_take.n ∧ co_take.run [.obj p, .int n] S K :=
  ⟨rfl, (p, n), rfl, ⟨hp, h0, h1⟩, fun r S' z => by
    obtain ⟨a, b, i, rfl, c, d⟩ := z
    exact q i S' a b c d⟩
theorem atI_int {α : Type} {xs : List α} {i : Int} (h0 : 0 ≤ i) (h1 : i < xs.length) : ∃ t, atI xs i = some t ∧ t ∈ xs := by
  have hn : i.toNat < xs.length := by omega
  have := atI_nat (xs := xs) (n := i.toNat) (t := xs[i.toNat]) (List.getElem?_eq_getElem hn)
  rw [Int.toNat_of_nonneg h0] at this
  exact ⟨_, this, List.getElem_mem hn⟩
theorem strsOf_map : ∀ zs : List (List Nat), strsOf (zs.map T.str) = some zs
  | [] => rfl
  | z :: zs => by
    show (strsOf (zs.map T.str)).map _ = _
    rw [strsOf_map zs]
    rfl
theorem joinL_nil (zs : List (List Nat)) : joinL [] zs = zs.flatten := by
  have go : ∀ (zs : List (List Nat)) (x : List Nat), zs.foldl (fun acc p => acc ++ [] ++ p) x = x ++ zs.flatten := by
    intro zs
    induction zs with
    | nil => intro x; simp
    | cons z zs ih => intro x; rw [List.foldl_cons, ih]; simp
  unfold joinL
  cases zs with
  | nil => rfl
  | cons z zs => exact go zs z
/-- a text of letters, at most so long -/
def Lets (n : Nat) (x : List Nat) : Prop := x.length ≤ n ∧ ∀ c ∈ x, c ∈ letters
theorem nameOk_of {x : List Nat} (h : Lets 8 x) (h1 : 1 ≤ x.length) : nameOk x = true := by
  unfold nameOk
  rw [decide_eq_true ⟨h1, h.1⟩, Bool.true_and, List.all_eq_true]
  exact fun c hc => decide_eq_true (h.2 c hc)
theorem letters_len : letters.length = 26 := by decide +kernel
theorem ixG_str {z : List Nat} {i : Int} {S : Sta} {Q : T → Sta → Prop} {c : Nat} (hl : z.length ≤ 16777216) (e : atI z i = some c) (q : Q (.str [c]) S) : ixG (.str z) (.int i) S Q := ⟨by rw [sizeLine_val]; exact hl, c, e, q⟩
/-- a letter by its place -/
theorem ix_letter {i : Int} {S : Sta} {Q : T → Sta → Prop} (h0 : 0 ≤ i) (h1 : i < 26) (q : ∀ c, c ∈ letters → Q (.str [c]) S) : ixG (.str (tx "abcdefghijklmnopqrstuvwxyz")) (.int i) S Q := by
  obtain ⟨c, e, hc⟩ := atI_int (xs := letters) h0 (by rw [letters_len]; exact h1)
  exact ixG_str (by have := letters_len; unfold letters at this; omega) e (q c hc)
/-- need: 1 -/
def co_names (k : Nat) : Co := Co.of 1 (A := Nat) (fun p => [.obj p]) (fun p S => PoolAt S p ∧ 1 ≤ k) (fun p S r S' => Pc p S S' ∧ PoolAt S' p ∧ ∃ l, r = .obj l ∧ S.length ≤ l ∧ NamesAt S' l)
def own12 : List (List Nat) := [tx "v", tx "c", tx "b", tx "kind", tx "const", tx "refl", tx "eq", tx "bool", tx "fun", tx "a", tx "none", tx "zzzzzzzz"]
theorem own12_ok : ∀ x ∈ own12, nameOk x = true := by decide +kernel
theorem rng_mem {lo : Int} {n i : Nat} {x : T} (e : (rngT lo n)[i]? = some x) : x = .int (lo + i) ∧ i < n := by
  unfold rngT at e
  rw [List.getElem?_map] at e
  by_cases hi : i < n
  · rw [List.getElem?_range hi] at e
    cases e
    exact ⟨rfl, hi⟩
  · rw [List.getElem?_eq_none (by simpa using Nat.le_of_not_lt hi)] at e
    cases e
theorem rng_len {lo : Int} {n : Nat} : (rngT lo n).length = n := by simp [rngT]
theorem PoolAt.pc {S S' : Sta} {p : Nat} {i : Nat} {c : Cell} (x : Pc p S S') (e : S[i]? = some c) (h : i ≠ p) : S'[i]? = some c := x.get e h
theorem st_names {W : Wd} (h12 : W.Γ 12 = co_take) {p : Nat} {S : Sta} {Q : T → Sta → Prop} (hp : PoolAt S p)
    (q : ∀ r S', (Pc p S S' ∧ PoolAt S' p ∧ ∃ l, r = .obj l ∧ S.length ≤ l ∧ NamesAt S' l) → Q r S') : denS W b_law_names_0 (En0 Q) [some (.obj p), none, none, none, none, none, none] S := by
  simp only [b_law_names_0, wLc2, wDc, wSk, shR, wZip, wsAug, wD2, denS, den, denA, denI, denO, denT, denG, denGs, wsSeq, wsN, wsIf, wsR, wsX, wsAsg, wsFld, wsBrk, wsCnt, wVar, wC, wTup, wLst, wDisp, wDict0, wOp, wChain, wAnd, wOr, wNot, wIf, wSl, wFld, wIsi, wCall, wBm, wApp, wMeth, wMethK, wNew, wNil, wCons, woN, woS, wgN, wgSub, wgTup, wgStar, wgNil, wgCons, wT, wYes, wLc, wIt, wRng1, wRng2, wsFor, wipeE, Bi.run, Bm.run, Bm.ty, List.getElem?_cons_zero, List.getElem?_cons_succ, List.set_cons_zero, List.set_cons_succ, Option.some.injEq, exists_eq_left', tru_bl, List.append_nil]
  refine ⟨by simp [sizeLine_val], ?_⟩
  have hpl : p < S.length := by obtain ⟨_, _, _, e⟩ := hp; exact lt_of_some e
  have e0 : (S ++ [Cell.lst (own12.map T.str)])[S.length]? = some (.lst (own12.map T.str)) := get_new
  show denS W b_law_names_1 (En0 Q) [some (.obj p), some (.obj S.length), none, none, none, none, none] (S ++ [.lst (own12.map T.str)])
  have x0 : Pc p S (S ++ [.lst (own12.map T.str)]) := .app
  have p0 : PoolAt (S ++ [.lst (own12.map T.str)]) p := hp.ex .app
  generalize S ++ [.lst (own12.map T.str)] = S0 at e0 x0 p0 ⊢
  simp only [b_law_names_1, wLc2, wDc, wSk, shR, wZip, wsAug, wD2, denS, den, denA, denI, denO, denT, denG, denGs, wsSeq, wsN, wsIf, wsR, wsX, wsAsg, wsFld, wsBrk, wsCnt, wVar, wC, wTup, wLst, wDisp, wDict0, wOp, wChain, wAnd, wOr, wNot, wIf, wSl, wFld, wIsi, wCall, wBm, wApp, wMeth, wMethK, wNew, wNil, wCons, woN, woS, wgN, wgSub, wgTup, wgStar, wgNil, wgCons, wT, wYes, wLc, wIt, wRng1, wRng2, wsFor, wipeE, Bi.run, Bm.run, Bm.ty, List.getElem?_cons_zero, List.getElem?_cons_succ, List.set_cons_zero, List.set_cons_succ, Option.some.injEq, exists_eq_left', tru_bl, List.append_nil, h12]
  refine do_take p0 (by decide) (by decide) fun i1 S1 x1 p1 a1 b1 => ⟨by simp [sizeLine_val], ?_⟩
  have x1' : Pc p S S1 := x0.trans x1 fun _ _ z => z
  have e1 := x1.get e0 (show ¬ S.length = p by omega)
  refine do_take (p1.ex .app) (by decide) (by decide) fun i2 S2 x2 p2 a2 b2 => ?_
  have x2' : Pc p S S2 := (x1'.trans (Ch.app (w := fun _ => False)) fun _ _ z => z.elim).trans x2 fun _ _ z => z
  have hl1 : S.length < S1.length := lt_of_some e1
  have e2 : S2[S1.length]? = some (.lst [.int 1, .int 5, .int 7, .int 11]) := x2.get get_new (show ¬ S1.length = p by omega)
  have e2' : S2[S.length]? = some (.lst (own12.map T.str)) := x2.get (get_app e1) (show ¬ S.length = p by omega)
  obtain ⟨t, ht, hm⟩ := atI_int (xs := [T.int 1, .int 5, .int 7, .int 11]) a2 b2
  obtain ⟨i3, rfl, h3, h4⟩ : ∃ i3 : Int, t = .int i3 ∧ 0 ≤ i3 ∧ i3 < 12 := by
    simp only [List.mem_cons, List.not_mem_nil, or_false] at hm
    rcases hm with rfl | rfl | rfl | rfl <;> exact ⟨_, rfl, by decide, by decide⟩
  refine ixG_lst e2 ht ⟨by simp [sizeLine_val], rfl, trivial, ?_⟩
  clear x1 e1 x2 hm ht e2 e0 x0 p0 x1' p1
  simp only [b_law_names_2, wLc2, wDc, wSk, shR, wZip, wsAug, wD2, denS, den, denA, denI, denO, denT, denG, denGs, wsSeq, wsN, wsIf, wsR, wsX, wsAsg, wsFld, wsBrk, wsCnt, wVar, wC, wTup, wLst, wDisp, wDict0, wOp, wChain, wAnd, wOr, wNot, wIf, wSl, wFld, wIsi, wCall, wBm, wApp, wMeth, wMethK, wNew, wNil, wCons, woN, woS, wgN, wgSub, wgTup, wgStar, wgNil, wgCons, wT, wYes, wLc, wIt, wRng1, wRng2, wsFor, wipeE, Bi.run, Bm.run, Bm.ty, List.getElem?_cons_zero, List.getElem?_cons_succ, List.set_cons_zero, List.set_cons_succ, Option.some.injEq, exists_eq_left', tru_bl, List.append_nil, h12]
  refine do_take p2 (by decide) (by decide) fun i4 S3 x3 p3 a4 b4 => cg_eq_int ?_
  have x3' : Pc p S S3 := x2'.trans x3 fun _ _ z => z
  have e3 : S3[S.length]? = some (.lst (own12.map T.str)) := x3.get e2' (show ¬ S.length = p by omega)
  simp only [tru_bl]
  by_cases h : i4 = 0
  · simp only [decide_eq_true h, if_true]
    simp only [b_law_names_2t_0, wLc2, wDc, wSk, shR, wZip, wsAug, wD2, denS, den, denA, denI, denO, denT, denG, denGs, wsSeq, wsN, wsIf, wsR, wsX, wsAsg, wsFld, wsBrk, wsCnt, wVar, wC, wTup, wLst, wDisp, wDict0, wOp, wChain, wAnd, wOr, wNot, wIf, wSl, wFld, wIsi, wCall, wBm, wApp, wMeth, wMethK, wNew, wNil, wCons, woN, woS, wgN, wgSub, wgTup, wgStar, wgNil, wgCons, wT, wYes, wLc, wIt, wRng1, wRng2, wsFor, wipeE, Bi.run, Bm.run, Bm.ty, List.getElem?_cons_zero, List.getElem?_cons_succ, List.set_cons_zero, List.set_cons_succ, Option.some.injEq, exists_eq_left', tru_bl, List.append_nil]
    simp only [b_law_names_2t_1, wLc2, wDc, wSk, shR, wZip, wsAug, wD2, denS, den, denA, denI, denO, denT, denG, denGs, wsSeq, wsN, wsIf, wsR, wsX, wsAsg, wsFld, wsBrk, wsCnt, wVar, wC, wTup, wLst, wDisp, wDict0, wOp, wChain, wAnd, wOr, wNot, wIf, wSl, wFld, wIsi, wCall, wBm, wApp, wMeth, wMethK, wNew, wNil, wCons, woN, woS, wgN, wgSub, wgTup, wgStar, wgNil, wgCons, wT, wYes, wLc, wIt, wRng1, wRng2, wsFor, wipeE, Bi.run, Bm.run, Bm.ty, List.getElem?_cons_zero, List.getElem?_cons_succ, List.set_cons_zero, List.set_cons_succ, Option.some.injEq, exists_eq_left', tru_bl, List.append_nil, h12]
    refine ⟨rfl, do_take p3 (by decide) (by decide) fun i5 S4 x4 p4 a5 b5 => ⟨by omega, by omega, ?_⟩⟩
    have x4' : Pc p S S4 := x3'.trans x4 fun _ _ z => z
    refine lcW_by (fun i acc S' => Pc p S S' ∧ PoolAt S' p ∧ ∃ zs : List (List Nat), acc = zs.map T.str ∧ zs.length = i ∧ ∀ z ∈ zs, ∃ c, z = [c] ∧ c ∈ letters) ⟨x4', p4, [], rfl, rfl, fun _ h => by cases h⟩ (fun _ _ _ _ => trivial) (fun i x acc S' e h => ?_) (fun acc S' h => ?_) mono_yes (mono_den W _)
    · obtain ⟨x5, p5, zs, rfl, hzl, hz⟩ := h
      obtain ⟨rfl, hi⟩ := rng_mem e
      refine ⟨_, bd_nm _ _ _ _, ?_⟩
      simp only [x_law_names_2t_1_e0, wLc2, wDc, wSk, shR, wZip, wsAug, wD2, denS, den, denA, denI, denO, denT, denG, denGs, wsSeq, wsN, wsIf, wsR, wsX, wsAsg, wsFld, wsBrk, wsCnt, wVar, wC, wTup, wLst, wDisp, wDict0, wOp, wChain, wAnd, wOr, wNot, wIf, wSl, wFld, wIsi, wCall, wBm, wApp, wMeth, wMethK, wNew, wNil, wCons, woN, woS, wgN, wgSub, wgTup, wgStar, wgNil, wgCons, wT, wYes, wLc, wIt, wRng1, wRng2, wsFor, wipeE, Bi.run, Bm.run, Bm.ty, List.getElem?_cons_zero, List.getElem?_cons_succ, List.set_cons_zero, List.set_cons_succ, Option.some.injEq, exists_eq_left', tru_bl, List.append_nil, h12, if_true]
      refine do_take p5 (by decide) (by decide) fun i6 S5 x6 p6 a6 b6 => ix_letter a6 b6 fun c hc => ⟨by rw [List.length_map, sizeLine_val]; omega, x5.trans x6 fun _ _ z => z, p6, zs ++ [[c]], by simp, by simp [hzl], fun z hz' => ?_⟩
      rcases List.mem_append.mp hz' with hz' | hz'
      · exact hz z hz'
      · exact ⟨c, List.mem_singleton.mp hz', hc⟩
    · obtain ⟨x5, p5, zs, rfl, hzl, hz⟩ := h
      have hfl : Lets 7 zs.flatten := by
        have hlen : zs.flatten.length = zs.length := by
          clear hzl
          induction zs with
          | nil => rfl
          | cons z zs ih =>
            obtain ⟨c, rfl, _⟩ := hz z List.mem_cons_self
            rw [List.flatten_cons, List.length_append, ih fun y hy => hz y (List.mem_cons_of_mem _ hy)]
            exact Nat.add_comm 1 _
        rw [rng_len] at hzl
        refine ⟨by rw [hlen, hzl]; omega, fun c hc => ?_⟩
        obtain ⟨z, hz1, hz2⟩ := List.mem_flatten.mp hc
        obtain ⟨d, rfl, hd⟩ := hz z hz1
        rw [List.mem_singleton.mp hz2]
        exact hd
      have hsum : (List.map List.length zs).sum = zs.flatten.length := by rw [List.length_flatten]
      refine ⟨_, _, _, zs, rfl, rfl, (by simp only [seqOf, get_new]), strsOf_map zs, ?_, ?_⟩
      · have := hfl.1
        simp only [List.length_nil, Nat.mul_zero, Nat.add_zero]
        exact Nat.le_trans (Nat.le_of_eq hsum) (by omega)
      · rw [joinL_nil]
        have x6 : Pc p S (S' ++ [.lst (zs.map T.str)]) := x5.trans (Ch.app (w := fun _ => False)) fun _ _ z => z.elim
        have p6 : PoolAt (S' ++ [.lst (zs.map T.str)]) p := p5.ex .app
        generalize S' ++ [.lst (zs.map T.str)] = S6 at x6 p6 ⊢
        generalize zs.flatten = stem at hfl
        simp only [b_law_names_2t_2, wLc2, wDc, wSk, shR, wZip, wsAug, wD2, denS, den, denA, denI, denO, denT, denG, denGs, wsSeq, wsN, wsIf, wsR, wsX, wsAsg, wsFld, wsBrk, wsCnt, wVar, wC, wTup, wLst, wDisp, wDict0, wOp, wChain, wAnd, wOr, wNot, wIf, wSl, wFld, wIsi, wCall, wBm, wApp, wMeth, wMethK, wNew, wNil, wCons, woN, woS, wgN, wgSub, wgTup, wgStar, wgNil, wgCons, wT, wYes, wLc, wIt, wRng1, wRng2, wsFor, wipeE, Bi.run, Bm.run, Bm.ty, List.getElem?_cons_zero, List.getElem?_cons_succ, List.set_cons_zero, List.set_cons_succ, Option.some.injEq, exists_eq_left', tru_bl, List.append_nil]
        refine ⟨by decide, by decide, ?_⟩
        refine lcW_by (fun i acc S' => S' = S6 ∧ ∃ xs : List (List Nat), acc = xs.map T.str ∧ xs.length = i ∧ ∀ x ∈ xs, nameOk x = true) ⟨rfl, [], rfl, rfl, fun _ h => by cases h⟩ (fun _ _ _ _ => trivial) (fun i x acc S' e h => ?_) (fun acc S' h => ?_) mono_yes (mono_den W _)
        · obtain ⟨rfl, xs, rfl, hxl, hx⟩ := h
          obtain ⟨rfl, hi⟩ := rng_mem e
          refine ⟨_, bd_nm _ _ _ _, ?_⟩
          simp only [x_law_names_2t_2_e0, wLc2, wDc, wSk, shR, wZip, wsAug, wD2, denS, den, denA, denI, denO, denT, denG, denGs, wsSeq, wsN, wsIf, wsR, wsX, wsAsg, wsFld, wsBrk, wsCnt, wVar, wC, wTup, wLst, wDisp, wDict0, wOp, wChain, wAnd, wOr, wNot, wIf, wSl, wFld, wIsi, wCall, wBm, wApp, wMeth, wMethK, wNew, wNil, wCons, woN, woS, wgN, wgSub, wgTup, wgStar, wgNil, wgCons, wT, wYes, wLc, wIt, wRng1, wRng2, wsFor, wipeE, Bi.run, Bm.run, Bm.ty, List.getElem?_cons_zero, List.getElem?_cons_succ, List.set_cons_zero, List.set_cons_succ, Option.some.injEq, exists_eq_left', tru_bl, List.append_nil, if_true]
          refine bin_mul_l (by omega) (bin_add (bin_mod (by decide) ?_))
          refine ix_letter (Int.emod_nonneg _ (by decide)) (Int.emod_lt_of_pos _ (by decide)) fun c hc => bin_str (by have := hfl.1; simp; omega) ⟨by rw [List.length_map, sizeLine_val]; have : i < 12 := hi; omega, rfl, xs ++ [stem ++ [c]], by simp, by simp [hxl], fun x hx' => ?_⟩
          rcases List.mem_append.mp hx' with hx' | hx'
          · exact hx x hx'
          · rw [List.mem_singleton.mp hx']
            refine nameOk_of ⟨?_, fun d hd => ?_⟩ (by simp)
            · have := hfl.1
              rw [List.length_append, List.length_singleton]
              omega
            · rcases List.mem_append.mp hd with hd | hd
              · exact hfl.2 d hd
              · rw [List.mem_singleton.mp hd]
                exact hc
        · obtain ⟨rfl, xs, rfl, hxl, hx⟩ := h
          exact q _ _ ⟨x6.trans (Ch.app (w := fun _ => False)) fun _ _ z => z.elim, p6.ex .app, _, rfl, x6.len, xs, get_new, by rw [hxl, rng_len]; rfl, hx⟩
  · simp only [decide_eq_false h, Bool.false_eq_true, if_false]
    simp only [b_law_names_3, wLc2, wDc, wSk, shR, wZip, wsAug, wD2, denS, den, denA, denI, denO, denT, denG, denGs, wsSeq, wsN, wsIf, wsR, wsX, wsAsg, wsFld, wsBrk, wsCnt, wVar, wC, wTup, wLst, wDisp, wDict0, wOp, wChain, wAnd, wOr, wNot, wIf, wSl, wFld, wIsi, wCall, wBm, wApp, wMeth, wMethK, wNew, wNil, wCons, woN, woS, wgN, wgSub, wgTup, wgStar, wgNil, wgCons, wT, wYes, wLc, wIt, wRng1, wRng2, wsFor, wipeE, Bi.run, Bm.run, Bm.ty, List.getElem?_cons_zero, List.getElem?_cons_succ, List.set_cons_zero, List.set_cons_succ, Option.some.injEq, exists_eq_left', tru_bl, List.append_nil]
    refine ⟨by decide, by decide, ?_⟩
    refine lcW_by (fun i acc S' => S' = S3 ∧ ∃ xs : List (List Nat), acc = xs.map T.str ∧ xs.length = i ∧ ∀ x ∈ xs, nameOk x = true) ⟨rfl, [], rfl, rfl, fun _ h => by cases h⟩ (fun _ _ _ _ => trivial) (fun i x acc S' e h => ?_) (fun acc S' h => ?_) mono_yes (mono_den W _)
    · obtain ⟨rfl, xs, rfl, hxl, hx⟩ := h
      obtain ⟨rfl, hi⟩ := rng_mem e
      refine ⟨_, bd_nm _ _ _ _, ?_⟩
      simp only [x_law_names_3_e0, wLc2, wDc, wSk, shR, wZip, wsAug, wD2, denS, den, denA, denI, denO, denT, denG, denGs, wsSeq, wsN, wsIf, wsR, wsX, wsAsg, wsFld, wsBrk, wsCnt, wVar, wC, wTup, wLst, wDisp, wDict0, wOp, wChain, wAnd, wOr, wNot, wIf, wSl, wFld, wIsi, wCall, wBm, wApp, wMeth, wMethK, wNew, wNil, wCons, woN, woS, wgN, wgSub, wgTup, wgStar, wgNil, wgCons, wT, wYes, wLc, wIt, wRng1, wRng2, wsFor, wipeE, Bi.run, Bm.run, Bm.ty, List.getElem?_cons_zero, List.getElem?_cons_succ, List.set_cons_zero, List.set_cons_succ, Option.some.injEq, exists_eq_left', tru_bl, List.append_nil, if_true]
      refine bin_mul_l (by omega) (bin_add (bin_mod (by decide) ?_))
      obtain ⟨t, ht, hm⟩ := atI_int (xs := own12.map T.str) (i := (i1 + i3 * (0 + (i : Int))) % 12) (Int.emod_nonneg _ (by decide)) (by rw [List.length_map]; exact Int.emod_lt_of_pos _ (by decide))
      obtain ⟨y, hy, rfl⟩ := List.mem_map.mp hm
      refine ixG_lst e3 ht ⟨by rw [List.length_map, sizeLine_val]; have : i < 12 := hi; omega, rfl, xs ++ [y], by simp, by simp [hxl], fun x hx' => ?_⟩
      rcases List.mem_append.mp hx' with hx' | hx'
      · exact hx x hx'
      · rw [List.mem_singleton.mp hx']
        exact own12_ok y hy
    · obtain ⟨rfl, xs, rfl, hxl, hx⟩ := h
      exact q _ _ ⟨x3'.trans (Ch.app (w := fun _ => False)) fun _ _ z => z.elim, p3.ex .app, _, rfl, x3'.len, xs, get_new, by rw [hxl, rng_len]; rfl, hx⟩
end TR
set_option Elab.async false
set_option linter.all false
set_option maxRecDepth 100000
set_option maxHeartbeats 2000000
/-! TK4: books: made, kinds declared. -/
namespace TR
open PySem PySem.Spec L2
open PyProof.Rows hiding St

/-- no class attribute hides a book's fields -/
abbrev NoB (W : Wd) : Prop := ∀ f ∈ bookF, W.noat (tx "Book") f = true
/-- the book's rows -/
def KeptAt (S : Sta) (b kl : Nat) (ks : List T) : Prop := (∃ fs, S[b]? = some (.ins (tx "Book") fs) ∧ fs.lookup (tx "kept") = some (.obj kl)) ∧ S[kl]? = some (.lst ks)
theorem mtyOf_lst {S : Sta} {i : Nat} {xs : List T} (h : S[i]? = some (.lst xs)) : mtyOf S (.obj i) = some .list := by simp only [mtyOf, h]
theorem gAppend_ok {S : Sta} {i : Nat} {xs : List T} {y : T} {Q : T → Sta → Prop} (h : S[i]? = some (.lst xs)) (hl : xs.length < 16777216) (q : Q .non (S.set i (.lst (xs ++ [y])))) : gAppend (.obj i) [y] S Q :=
  ⟨i, xs, y, rfl, rfl, h, by rw [sizeLine_val]; exact hl, q⟩
def co_keep : Co := Co.of 3 (A := Nat × Nat × List T × T × T) (fun a => [.obj a.1, a.2.2.2.1, a.2.2.2.2]) (fun a S => KeptAt S a.1 a.2.1 a.2.2.1 ∧ a.2.2.1.length < 1000)
  (fun a S r S' => Ch (fun i => i = a.2.1) S S' ∧ S'[a.2.1]? = some (.lst (a.2.2.1 ++ [.tup [a.2.2.2.1, a.2.2.2.2]])) ∧ r = .int (a.2.2.1.length : Int))
theorem st_keep {W : Wd} (hn : NoB W) {b kl : Nat} {ks : List T} {d s : T} {S : Sta} {Q : T → Sta → Prop} (hk : KeptAt S b kl ks) (hl : ks.length < 1000)
    (q : ∀ r S', (Ch (fun i => i = kl) S S' ∧ S'[kl]? = some (.lst (ks ++ [.tup [d, s]])) ∧ r = .int (ks.length : Int)) → Q r S') : denS W b_Book_keep_0 (En0 Q) [some (.obj b), some d, some s] S := by
  obtain ⟨⟨fs, hb, hf⟩, hkl⟩ := hk
  have nk : W.noat (tx "Book") (tx "kept") = true := hn _ (by decide +kernel)
  simp only [b_Book_keep_0, wLc2, wDc, wSk, shR, wZip, wsAug, wD2, denS, den, denA, denI, denO, denT, denG, denGs, wsSeq, wsN, wsIf, wsR, wsX, wsAsg, wsFld, wsBrk, wsCnt, wVar, wC, wTup, wLst, wDisp, wDict0, wOp, wChain, wAnd, wOr, wNot, wIf, wSl, wFld, wIsi, wCall, wBm, wApp, wMeth, wMethK, wNew, wNil, wCons, woN, woS, wgN, wgSub, wgTup, wgStar, wgNil, wgCons, wT, wYes, wLc, wIt, wRng1, wRng2, wsFor, wipeE, Bi.run, Bm.run, Bm.ty, List.getElem?_cons_zero, List.getElem?_cons_succ, List.set_cons_zero, List.set_cons_succ, Option.some.injEq, exists_eq_left', tru_bl, List.append_nil, hb]
  refine ⟨nk, _, hf, mtyOf_lst hkl, by simp [sizeLine_val], gAppend_ok hkl (by omega) ?_⟩
  have hne : b ≠ kl := fun e => by subst e; rw [hb] at hkl; cases hkl
  have hb2 : (S.set kl (.lst (ks ++ [.tup [d, s]])))[b]? = some (.ins (tx "Book") fs) := by rw [List.getElem?_set_ne (Ne.symm hne)]; exact hb
  have hk2 := get_set (c := .lst (ks ++ [.tup [d, s]])) hkl
  have x : Ch (fun i => i = kl) S (S.set kl (.lst (ks ++ [.tup [d, s]]))) := Ch.set (fun _ => rfl) (by rw [hkl]; rfl)
  simp only [b_Book_keep_1, wLc2, wDc, wSk, shR, wZip, wsAug, wD2, denS, den, denA, denI, denO, denT, denG, denGs, wsSeq, wsN, wsIf, wsR, wsX, wsAsg, wsFld, wsBrk, wsCnt, wVar, wC, wTup, wLst, wDisp, wDict0, wOp, wChain, wAnd, wOr, wNot, wIf, wSl, wFld, wIsi, wCall, wBm, wApp, wMeth, wMethK, wNew, wNil, wCons, woN, woS, wgN, wgSub, wgTup, wgStar, wgNil, wgCons, wT, wYes, wLc, wIt, wRng1, wRng2, wsFor, wipeE, Bi.run, Bm.run, Bm.ty, List.getElem?_cons_zero, List.getElem?_cons_succ, List.set_cons_zero, List.set_cons_succ, Option.some.injEq, exists_eq_left', tru_bl, List.append_nil, hb2]
  refine ⟨nk, _, hf, gLen_lst hk2 (bin_sub (q _ _ ⟨x, hk2, ?_⟩))⟩
  congr 1
  rw [List.length_append, List.length_singleton]
  omega
/-- need: 1 -/
def co_check_new (k : Nat) : Co := Co.of 3 (A := T × List Nat × Nat × Wn) (fun a => [a.1, .str a.2.1, .obj a.2.2.1]) (fun a S => nameOk a.2.1 = true ∧ S[a.2.2.1]? = some (.dct (kvs a.2.2.2)) ∧ a.2.2.2.lookup a.2.1 = none ∧ 1 ≤ k) (fun a S r S' => Ex S S' ∧ r = .non)
theorem nameOk_len {x : List Nat} (h : nameOk x = true) : x.length ≤ 8 := by
  unfold nameOk at h
  rw [Bool.and_eq_true, decide_eq_true_eq] at h
  exact h.1.2
theorem wf_name {S : Sta} {x : List Nat} (h : nameOk x = true) : wf S (.str x) = true := by
  have := nameOk_len h
  unfold wf
  exact decide_eq_true (by omega)
theorem st_check_new {W : Wd} (h16 : W.Γ 16 = co_is_name) {b : T} {x : List Nat} {w : Nat} {ws : Wn} {S : Sta} {Q : T → Sta → Prop} (hx : nameOk x = true) (hw : S[w]? = some (.dct (kvs ws))) (hl : ws.lookup x = none)
    (q : ∀ r S', (Ex S S' ∧ r = .non) → Q r S') : denS W b_Book_check_new_0 (En0 Q) [some b, some (.str x), some (.obj w)] S := by
  simp only [b_Book_check_new_0, wLc2, wDc, wSk, shR, wZip, wsAug, wD2, denS, den, denA, denI, denO, denT, denG, denGs, wsSeq, wsN, wsIf, wsR, wsX, wsAsg, wsFld, wsBrk, wsCnt, wVar, wC, wTup, wLst, wDisp, wDict0, wOp, wChain, wAnd, wOr, wNot, wIf, wSl, wFld, wIsi, wCall, wBm, wApp, wMeth, wMethK, wNew, wNil, wCons, woN, woS, wgN, wgSub, wgTup, wgStar, wgNil, wgCons, wT, wYes, wLc, wIt, wRng1, wRng2, wsFor, wipeE, Bi.run, Bm.run, Bm.ty, List.getElem?_cons_zero, List.getElem?_cons_succ, List.set_cons_zero, List.set_cons_succ, Option.some.injEq, exists_eq_left', tru_bl, List.append_nil, h16]
  refine ⟨rfl, .str x, rfl, wf_name hx, fun r S' z => ?_⟩
  obtain ⟨e, rfl⟩ := z
  simp only [nameT, hx, tru_bl, Bool.not_true, Bool.false_eq_true, if_false]
  simp only [b_Book_check_new_1, wLc2, wDc, wSk, shR, wZip, wsAug, wD2, denS, den, denA, denI, denO, denT, denG, denGs, wsSeq, wsN, wsIf, wsR, wsX, wsAsg, wsFld, wsBrk, wsCnt, wVar, wC, wTup, wLst, wDisp, wDict0, wOp, wChain, wAnd, wOr, wNot, wIf, wSl, wFld, wIsi, wCall, wBm, wApp, wMeth, wMethK, wNew, wNil, wCons, woN, woS, wgN, wgSub, wgTup, wgStar, wgNil, wgCons, wT, wYes, wLc, wIt, wRng1, wRng2, wsFor, wipeE, Bi.run, Bm.run, Bm.ty, List.getElem?_cons_zero, List.getElem?_cons_succ, List.set_cons_zero, List.set_cons_succ, Option.some.injEq, exists_eq_left', tru_bl, List.append_nil]
  refine cg_in_dct (e.get hw) rfl ?_
  rw [dget_kvs, hl]
  simp only [Option.map_none, Option.isSome_none, tru_bl, Bool.false_eq_true, if_false]
  exact q _ _ ⟨e, rfl⟩
theorem dput_new (ws : Wn) {x : List Nat} (m : Int) (hl : ws.lookup x = none) : dput (kvs ws) (.str x) (.int m) = kvs (ws ++ [(x, m)]) := by
  have : ((kvs ws).any fun p => keyEq p.1 (.str x)) = false := by
    rw [List.any_eq_false]
    intro p hp
    obtain ⟨q, hq, rfl⟩ := List.mem_map.mp hp
    intro e
    have e : q.1 = x := of_decide_eq_true e
    induction ws with
    | nil => cases hq
    | cons y ws ih =>
      rw [List.lookup_cons] at hl
      cases h : x == y.1 with
      | true => rw [h] at hl; cases hl
      | false =>
        rw [h] at hl
        rcases List.mem_cons.mp hq with rfl | hq
        · rw [e] at h; simp at h
        · exact ih hl hq (List.mem_map.mpr ⟨q, hq, rfl⟩)
  unfold dput
  rw [this]
  simp [kvs]
/-- need: 2; what it tells is the row's number -/
def co_declare_kind (k : Nat) : Co := Co.of 3 (A := Nat × Nat × Nat × Wn × List T × List Nat × Int) (fun a => [.obj a.1, .str a.2.2.2.2.2.1, .int a.2.2.2.2.2.2])
  (fun a S => BookAt S a.1 a.2.1 a.2.2.2.1 ∧ KeptAt S a.1 a.2.2.1 a.2.2.2.2.1 ∧ a.2.2.2.2.1.length < 1000 ∧ a.2.2.2.1.length < 1000 ∧ nameOk a.2.2.2.2.2.1 = true ∧ a.2.2.2.1.lookup a.2.2.2.2.2.1 = none ∧ 0 ≤ a.2.2.2.2.2.2 ∧ a.2.2.2.2.2.2 ≤ 3 ∧ 2 ≤ k)
  (fun a S r S' => Ch (fun i => i = a.2.1 ∨ i = a.2.2.1) S S' ∧ BookAt S' a.1 a.2.1 (a.2.2.2.1 ++ [(a.2.2.2.2.2.1, a.2.2.2.2.2.2)]) ∧ KeptAt S' a.1 a.2.2.1 (a.2.2.2.2.1 ++ [.tup [.tup [.str (tx "declare_kind"), .str a.2.2.2.2.2.1, .int a.2.2.2.2.2.2], .non]]) ∧ r = .int (a.2.2.2.2.1.length : Int))
def co_is_whole : Co := Co.of 1 (A := T) (fun t => [t]) (fun t S => wf S t = true) (fun t S r S' => S' = S ∧ r = .bl (decide (tyOf S t = some .int)))
theorem st_declare_kind {W : Wd} {k : Nat} (hn : NoB W) (h17 : W.Γ 17 = co_check_new (k + 1)) (h18 : W.Γ 18 = co_is_whole) (h19 : W.Γ 19 = co_keep) {b w kl : Nat} {ws : Wn} {ks : List T} {x : List Nat} {m : Int} {S : Sta} {Q : T → Sta → Prop}
    (hB : BookAt S b w ws) (hK : KeptAt S b kl ks) (h1 : ks.length < 1000) (h2 : ws.length < 1000) (hx : nameOk x = true) (hl : ws.lookup x = none) (m0 : 0 ≤ m) (m3 : m ≤ 3)
    (q : ∀ r S', (Ch (fun i => i = w ∨ i = kl) S S' ∧ BookAt S' b w (ws ++ [(x, m)]) ∧ KeptAt S' b kl (ks ++ [.tup [.tup [.str (tx "declare_kind"), .str x, .int m], .non]]) ∧ r = .int (ks.length : Int)) → Q r S') :
    denS W b_Book_declare_kind_0 (En0 Q) [some (.obj b), some (.str x), some (.int m)] S := by
  have nw : W.noat (tx "Book") (tx "wants") = true := hn _ (by decide +kernel)
  obtain ⟨⟨fs, hb, hf, hF⟩, hw⟩ := id hB
  obtain ⟨⟨fs', hb', hkf⟩, hkl⟩ := id hK
  rw [hb] at hb'
  cases hb'
  have nw : W.noat (tx "Book") (tx "wants") = true := hn _ (by decide +kernel)
  simp only [b_Book_declare_kind_0, wLc2, wDc, wSk, shR, wZip, wsAug, wD2, denS, den, denA, denI, denO, denT, denG, denGs, wsSeq, wsN, wsIf, wsR, wsX, wsAsg, wsFld, wsBrk, wsCnt, wVar, wC, wTup, wLst, wDisp, wDict0, wOp, wChain, wAnd, wOr, wNot, wIf, wSl, wFld, wIsi, wCall, wBm, wApp, wMeth, wMethK, wNew, wNil, wCons, woN, woS, wgN, wgSub, wgTup, wgStar, wgNil, wgCons, wT, wYes, wLc, wIt, wRng1, wRng2, wsFor, wipeE, Bi.run, Bm.run, Bm.ty, List.getElem?_cons_zero, List.getElem?_cons_succ, List.set_cons_zero, List.set_cons_succ, Option.some.injEq, exists_eq_left', tru_bl, List.append_nil, h17, hb]
  refine ⟨insOf_ok hb (lookup_keys hF (by decide +kernel)), nw, _, hf, rfl, (.obj b, x, w, ws), rfl, ⟨hx, hw, hl, by omega⟩, fun r S1 z => ?_⟩
  obtain ⟨x1, rfl⟩ := z
  have hB1 := hB.ex x1
  have hb1 := x1.get hb
  have hw1 := x1.get hw
  have hkl1 := x1.get hkl
  simp only [b_Book_declare_kind_1, wLc2, wDc, wSk, shR, wZip, wsAug, wD2, denS, den, denA, denI, denO, denT, denG, denGs, wsSeq, wsN, wsIf, wsR, wsX, wsAsg, wsFld, wsBrk, wsCnt, wVar, wC, wTup, wLst, wDisp, wDict0, wOp, wChain, wAnd, wOr, wNot, wIf, wSl, wFld, wIsi, wCall, wBm, wApp, wMeth, wMethK, wNew, wNil, wCons, woN, woS, wgN, wgSub, wgTup, wgStar, wgNil, wgCons, wT, wYes, wLc, wIt, wRng1, wRng2, wsFor, wipeE, Bi.run, Bm.run, Bm.ty, List.getElem?_cons_zero, List.getElem?_cons_succ, List.set_cons_zero, List.set_cons_succ, Option.some.injEq, exists_eq_left', tru_bl, List.append_nil, h18]
  refine ⟨rfl, .int m, rfl, rfl, fun r S2 z => ?_⟩
  obtain ⟨rfl, rfl⟩ := z
  simp only [tyOf, tru_bl, decide_true, Bool.not_true, Bool.false_eq_true, if_false, cmpW, decide_eq_true m0, decide_eq_true m3, if_true]
  simp only [b_Book_declare_kind_2, wLc2, wDc, wSk, shR, wZip, wsAug, wD2, denS, den, denA, denI, denO, denT, denG, denGs, wsSeq, wsN, wsIf, wsR, wsX, wsAsg, wsFld, wsBrk, wsCnt, wVar, wC, wTup, wLst, wDisp, wDict0, wOp, wChain, wAnd, wOr, wNot, wIf, wSl, wFld, wIsi, wCall, wBm, wApp, wMeth, wMethK, wNew, wNil, wCons, woN, woS, wgN, wgSub, wgTup, wgStar, wgNil, wgCons, wT, wYes, wLc, wIt, wRng1, wRng2, wsFor, wipeE, Bi.run, Bm.run, Bm.ty, List.getElem?_cons_zero, List.getElem?_cons_succ, List.set_cons_zero, List.set_cons_succ, Option.some.injEq, exists_eq_left', tru_bl, List.append_nil, hb1]
  refine ⟨nw, _, hf, setW_dct hw1 rfl (by simp [kvs]; omega) ?_⟩
  rw [dput_new ws m hl]
  have hne : w ≠ kl := fun e => by subst e; rw [hw] at hkl; cases hkl
  have hbw : b ≠ w := fun e => by subst e; rw [hb] at hw; cases hw
  have hbk : b ≠ kl := fun e => by subst e; rw [hb] at hkl; cases hkl
  have x2 : Ch (fun i => i = w) S2 (S2.set w (.dct (kvs (ws ++ [(x, m)])))) := Ch.set (fun _ => rfl) (by rw [hw1]; rfl)
  have hw2 := get_set (c := .dct (kvs (ws ++ [(x, m)]))) hw1
  have hb2 := x2.get hb1 hbw
  have hkl2 := x2.get hkl1 (Ne.symm hne)
  generalize S2.set w (.dct (kvs (ws ++ [(x, m)]))) = S3 at x2 hw2 hb2 hkl2 ⊢
  simp only [b_Book_declare_kind_3, wLc2, wDc, wSk, shR, wZip, wsAug, wD2, denS, den, denA, denI, denO, denT, denG, denGs, wsSeq, wsN, wsIf, wsR, wsX, wsAsg, wsFld, wsBrk, wsCnt, wVar, wC, wTup, wLst, wDisp, wDict0, wOp, wChain, wAnd, wOr, wNot, wIf, wSl, wFld, wIsi, wCall, wBm, wApp, wMeth, wMethK, wNew, wNil, wCons, woN, woS, wgN, wgSub, wgTup, wgStar, wgNil, wgCons, wT, wYes, wLc, wIt, wRng1, wRng2, wsFor, wipeE, Bi.run, Bm.run, Bm.ty, List.getElem?_cons_zero, List.getElem?_cons_succ, List.set_cons_zero, List.set_cons_succ, Option.some.injEq, exists_eq_left', tru_bl, List.append_nil, h19]
  refine ⟨insOf_ok hb2 (lookup_keys hF (by decide +kernel)), by simp [sizeLine_val], rfl, (b, kl, ks, _, _), rfl, ⟨⟨⟨fs, hb2, hkf⟩, hkl2⟩, h1⟩, fun r S4 z => ?_⟩
  obtain ⟨x4, hkl4, rfl⟩ := z
  have hb4 := x4.get hb2 hbk
  exact q _ _ ⟨(x1.ch.trans x2 fun _ _ z => .inl z).trans x4 fun _ _ z => .inr z, ⟨⟨fs, hb4, hf, hF⟩, x4.get hw2 hne⟩, ⟨⟨fs, hb4, hkf⟩, hkl4⟩, rfl⟩
theorem st_is_whole' {W : Wd} {t : T} {S : Sta} {Q : T → Sta → Prop} (h : wf S t = true) (q : ∀ r S', (S' = S ∧ r = .bl (decide (tyOf S t = some .int))) → Q r S') : denS W b_is_whole_0 (En0 Q) [some t] S := by
  obtain ⟨a, ha⟩ := tyOf_wf h
  refine st_is_whole ha (q _ _ ⟨rfl, ?_⟩)
  rw [ha]
  simp
end TR
set_option Elab.async false
set_option linter.all false
set_option maxRecDepth 100000
set_option maxHeartbeats 2000000
/-! TK5: books made. -/
namespace TR
open PySem PySem.Spec L2
open PyProof.Rows hiding St

theorem fld_step {noat : List Nat → List Nat → Bool} {c f : List Nat} {fs : List (List Nat × T)} {b : Nat} {v : T} {S : Sta} {Q : Sta → Prop} (hb : S[b]? = some (.ins c fs)) (hn : noat c f = true) (hl : fs.length < 1000)
    (q : ∀ S', Ch (fun i => i = b) S S' → S'[b]? = some (.ins c (fput f v fs)) → Q S') : fldW noat f (.obj b) v S Q := by
  simp only [fldW, hb]
  exact ⟨hn, hl, q _ (Ch.set (fun _ => rfl) (by rw [hb]; rfl)) (get_set hb)⟩
theorem fput_lt {f : List Nat} {v : T} {n : Nat} : ∀ {fs : List (List Nat × T)}, fs.length < n → (fput f v fs).length < n + 1
  | [], h => by simp only [fput, List.length_cons, List.length_nil] at h ⊢; omega
  | p :: fs, h => by
    unfold fput
    split
    · rw [List.length_cons] at h ⊢
      omega
    · rw [List.length_cons] at h ⊢
      cases n with
      | zero => omega
      | succ n => exact Nat.succ_lt_succ (fput_lt (by omega))
def ws0 : Wn := [(tx "bool", 0), (tx "fun", 2)]
/-- need: 1 -/
def co_init (k : Nat) : Co := Co.of 1 (A := Nat) (fun b => [.obj b]) (fun b S => S[b]? = some (.ins (tx "Book") []) ∧ 1 ≤ k)
  (fun b S r S' => Ch (fun i => i = b) S S' ∧ r = .non ∧ ∃ w kl, S.length ≤ w ∧ S.length ≤ kl ∧ BookAt S' b w ws0 ∧ KeptAt S' b kl [])
theorem pair2 {a b : List Nat} {u v : T} : pairUp [.str a, u, .str b, v] = some [(.str a, u), (.str b, v)] := rfl
theorem pair1 {a : List Nat} {u : T} : pairUp [.str a, u] = some [(.str a, u)] := rfl
theorem ws0_make : dmake [(.str (tx "bool"), .int 0), (.str (tx "fun"), .int 2)] = kvs ws0 := by
  have : keyEq (.str (tx "bool")) (.str (tx "fun")) = false := by decide +kernel
  simp [dmake, dput, this, kvs, ws0]
theorem st_init {W : Wd} (hn : NoB W) (h9 : W.Γ 9 = co_fun_of) {b : Nat} {S : Sta} {Q : T → Sta → Prop} (hb : S[b]? = some (.ins (tx "Book") []))
    (q : ∀ r S', (Ch (fun i => i = b) S S' ∧ r = .non ∧ ∃ w kl, S.length ≤ w ∧ S.length ≤ kl ∧ BookAt S' b w ws0 ∧ KeptAt S' b kl []) → Q r S') : denS W b_Book_init_0 (En0 Q) [some (.obj b)] S := by
  have nf : ∀ f ∈ bookF, W.noat (tx "Book") f = true := hn
  have hbl : b < S.length := lt_of_some hb
  simp only [b_Book_init_0, wLc2, wDc, wSk, shR, wZip, wsAug, wD2, denS, den, denA, denI, denO, denT, denG, denGs, wsSeq, wsN, wsIf, wsR, wsX, wsAsg, wsFld, wsBrk, wsCnt, wVar, wC, wTup, wLst, wDisp, wDict0, wOp, wChain, wAnd, wOr, wNot, wIf, wSl, wFld, wIsi, wCall, wBm, wApp, wMeth, wMethK, wNew, wNil, wCons, woN, woS, wgN, wgSub, wgTup, wgStar, wgNil, wgCons, wT, wYes, wLc, wIt, wRng1, wRng2, wsFor, wipeE, Bi.run, Bm.run, Bm.ty, List.getElem?_cons_zero, List.getElem?_cons_succ, List.set_cons_zero, List.set_cons_succ, Option.some.injEq, exists_eq_left', tru_bl, List.append_nil]
  refine ⟨_, pair2, by simp, ?_⟩
  rw [ws0_make]
  refine fld_step (get_app hb) (nf _ (by decide +kernel)) (by simp) fun S1 x1 hb1 => ?_
  have hw1 : S1[S.length]? = some (.dct (kvs ws0)) := x1.get get_new (by omega)
  have c1 : Ch (fun i => i = b) S S1 := (Ch.app (w := fun i => i = b)).trans x1 fun _ _ z => z
  generalize hwi : S.length = w at hw1 hb1 ⊢
  simp only [b_Book_init_1, wLc2, wDc, wSk, shR, wZip, wsAug, wD2, denS, den, denA, denI, denO, denT, denG, denGs, wsSeq, wsN, wsIf, wsR, wsX, wsAsg, wsFld, wsBrk, wsCnt, wVar, wC, wTup, wLst, wDisp, wDict0, wOp, wChain, wAnd, wOr, wNot, wIf, wSl, wFld, wIsi, wCall, wBm, wApp, wMeth, wMethK, wNew, wNil, wCons, woN, woS, wgN, wgSub, wgTup, wgStar, wgNil, wgCons, wT, wYes, wLc, wIt, wRng1, wRng2, wsFor, wipeE, Bi.run, Bm.run, Bm.ty, List.getElem?_cons_zero, List.getElem?_cons_succ, List.set_cons_zero, List.set_cons_succ, Option.some.injEq, exists_eq_left', tru_bl, List.append_nil, h9]
  refine ⟨rfl, (_, _), rfl, trivial, fun r S2 z => ?_⟩
  obtain ⟨rfl, rfl⟩ := z
  refine ⟨rfl, (_, _), rfl, trivial, fun r S2 z => ?_⟩
  obtain ⟨rfl, rfl⟩ := z
  refine ⟨_, pair1, by simp, ?_⟩
  have hS : S.length ≤ S2.length := c1.len
  refine fld_step (get_app hb1) (nf _ (by decide +kernel)) (fput_lt (by simp)) fun S3 x3 hb3 => ?_
  have hw3 : S3[w]? = some (.dct (kvs ws0)) := x3.get (get_app hw1) (by omega)
  have c3 : Ch (fun i => i = b) S S3 := (c1.trans (Ch.app (w := fun _ => False)) fun _ _ z => z.elim).trans x3 fun _ _ z => z
  simp only [b_Book_init_2, wLc2, wDc, wSk, shR, wZip, wsAug, wD2, denS, den, denA, denI, denO, denT, denG, denGs, wsSeq, wsN, wsIf, wsR, wsX, wsAsg, wsFld, wsBrk, wsCnt, wVar, wC, wTup, wLst, wDisp, wDict0, wOp, wChain, wAnd, wOr, wNot, wIf, wSl, wFld, wIsi, wCall, wBm, wApp, wMeth, wMethK, wNew, wNil, wCons, woN, woS, wgN, wgSub, wgTup, wgStar, wgNil, wgCons, wT, wYes, wLc, wIt, wRng1, wRng2, wsFor, wipeE, Bi.run, Bm.run, Bm.ty, List.getElem?_cons_zero, List.getElem?_cons_succ, List.set_cons_zero, List.set_cons_succ, Option.some.injEq, exists_eq_left', tru_bl, List.append_nil]
  refine fld_step (get_app hb3) (nf _ (by decide +kernel)) (fput_lt (fput_lt (by simp))) fun S4 x4 hb4 => ?_
  have hw4 : S4[w]? = some (.dct (kvs ws0)) := x4.get (get_app hw3) (by omega)
  have c4 : Ch (fun i => i = b) S S4 := (c3.trans (Ch.app (w := fun _ => False)) fun _ _ z => z.elim).trans x4 fun _ _ z => z
  simp only [b_Book_init_3, wLc2, wDc, wSk, shR, wZip, wsAug, wD2, denS, den, denA, denI, denO, denT, denG, denGs, wsSeq, wsN, wsIf, wsR, wsX, wsAsg, wsFld, wsBrk, wsCnt, wVar, wC, wTup, wLst, wDisp, wDict0, wOp, wChain, wAnd, wOr, wNot, wIf, wSl, wFld, wIsi, wCall, wBm, wApp, wMeth, wMethK, wNew, wNil, wCons, woN, woS, wgN, wgSub, wgTup, wgStar, wgNil, wgCons, wT, wYes, wLc, wIt, wRng1, wRng2, wsFor, wipeE, Bi.run, Bm.run, Bm.ty, List.getElem?_cons_zero, List.getElem?_cons_succ, List.set_cons_zero, List.set_cons_succ, Option.some.injEq, exists_eq_left', tru_bl, List.append_nil]
  have e : ∀ (v1 v2 v3 v4 v5 v6 : T), fput (tx "kept") v6 (fput (tx "axioms") v5 (fput (tx "parted") v4 (fput (tx "meanings") v3 (fput (tx "constants") v2 (fput (tx "wants") v1 []))))) = [(tx "wants", v1), (tx "constants", v2), (tx "meanings", v3), (tx "parted", v4), (tx "axioms", v5), (tx "kept", v6)] := by
    intro v1 v2 v3 v4 v5 v6
    kernel_rfl
  refine fld_step (get_app hb4) (nf _ (by decide +kernel)) (fput_lt (fput_lt (fput_lt (by simp)))) fun S5 x5 hb5 => ?_
  have hw5 : S5[w]? = some (.dct (kvs ws0)) := x5.get (get_app hw4) (by omega)
  have c5 : Ch (fun i => i = b) S S5 := (c4.trans (Ch.app (w := fun _ => False)) fun _ _ z => z.elim).trans x5 fun _ _ z => z
  simp only [b_Book_init_4, wLc2, wDc, wSk, shR, wZip, wsAug, wD2, denS, den, denA, denI, denO, denT, denG, denGs, wsSeq, wsN, wsIf, wsR, wsX, wsAsg, wsFld, wsBrk, wsCnt, wVar, wC, wTup, wLst, wDisp, wDict0, wOp, wChain, wAnd, wOr, wNot, wIf, wSl, wFld, wIsi, wCall, wBm, wApp, wMeth, wMethK, wNew, wNil, wCons, woN, woS, wgN, wgSub, wgTup, wgStar, wgNil, wgCons, wT, wYes, wLc, wIt, wRng1, wRng2, wsFor, wipeE, Bi.run, Bm.run, Bm.ty, List.getElem?_cons_zero, List.getElem?_cons_succ, List.set_cons_zero, List.set_cons_succ, Option.some.injEq, exists_eq_left', tru_bl, List.append_nil]
  refine fld_step (get_app hb5) (nf _ (by decide +kernel)) (fput_lt (fput_lt (fput_lt (fput_lt (by simp))))) fun S6 x6 hb6 => ?_
  have hw6 : S6[w]? = some (.dct (kvs ws0)) := x6.get (get_app hw5) (by omega)
  have c6 : Ch (fun i => i = b) S S6 := (c5.trans (Ch.app (w := fun _ => False)) fun _ _ z => z.elim).trans x6 fun _ _ z => z
  simp only [b_Book_init_5, wLc2, wDc, wSk, shR, wZip, wsAug, wD2, denS, den, denA, denI, denO, denT, denG, denGs, wsSeq, wsN, wsIf, wsR, wsX, wsAsg, wsFld, wsBrk, wsCnt, wVar, wC, wTup, wLst, wDisp, wDict0, wOp, wChain, wAnd, wOr, wNot, wIf, wSl, wFld, wIsi, wCall, wBm, wApp, wMeth, wMethK, wNew, wNil, wCons, woN, woS, wgN, wgSub, wgTup, wgStar, wgNil, wgCons, wT, wYes, wLc, wIt, wRng1, wRng2, wsFor, wipeE, Bi.run, Bm.run, Bm.ty, List.getElem?_cons_zero, List.getElem?_cons_succ, List.set_cons_zero, List.set_cons_succ, Option.some.injEq, exists_eq_left', tru_bl, List.append_nil]
  refine ⟨by simp, fld_step (get_app hb6) (nf _ (by decide +kernel)) (fput_lt (fput_lt (fput_lt (fput_lt (fput_lt (by simp)))))) fun S7 x7 hb7 => ?_⟩
  have hw7 : S7[w]? = some (.dct (kvs ws0)) := x7.get (get_app hw6) (by omega)
  have c7 : Ch (fun i => i = b) S S7 := (c6.trans (Ch.app (w := fun _ => False)) fun _ _ z => z.elim).trans x7 fun _ _ z => z
  have hl6 := c6.len
  have hk7 : S7[S6.length]? = some (.lst []) := x7.get get_new (by omega)
  rw [e] at hb7
  refine q _ _ ⟨c7, rfl, w, S6.length, by omega, hl6, ⟨⟨_, hb7, by kernel_rfl, by kernel_rfl⟩, hw7⟩, ⟨_, hb7, by kernel_rfl⟩, hk7⟩
end TR
set_option Elab.async false
set_option linter.all false
set_option maxRecDepth 100000
set_option maxHeartbeats 2000000
/-! TK6: kinds declared by the law. -/
namespace TR
open PySem PySem.Spec L2
open PyProof.Rows hiding St

def WnOk (n : Nat) (ws : Wn) : Prop := ws.length ≤ n ∧ 2 ≤ ws.length ∧ ∀ q ∈ ws, 0 ≤ q.2 ∧ q.2 ≤ 3 ∧ nameOk q.1 = true
/-- begins as a new book's; unlike names -/
def WnX (ws : Wn) : Prop := (∃ more, ws = ws0 ++ more) ∧ (ws.map (·.1)).Nodup
theorem lookup_none {ws : Wn} {x : List Nat} (h : ws.lookup x = none) : x ∉ ws.map (·.1) := by
  induction ws with
  | nil => exact List.not_mem_nil
  | cons q ws ih =>
    rw [List.lookup_cons] at h
    cases e : x == q.1 with
    | true => rw [e] at h; cases h
    | false =>
      rw [e] at h
      rw [List.map_cons, List.mem_cons, not_or]
      exact ⟨fun z => by rw [z] at e; simp at e, ih h⟩
theorem WnX.snoc {ws : Wn} {x : List Nat} {m : Int} (h : WnX ws) (hl : ws.lookup x = none) : WnX (ws ++ [(x, m)]) := by
  obtain ⟨⟨more, e⟩, nd⟩ := h
  refine ⟨⟨more ++ [(x, m)], by rw [e, List.append_assoc]⟩, ?_⟩
  rw [List.map_append, List.nodup_append]
  refine ⟨nd, by simp, fun a ha b hb => ?_⟩
  rw [List.map_singleton, List.mem_singleton] at hb
  subst hb
  exact fun z => lookup_none hl (z ▸ ha)
abbrev Pwk (p w kl : Nat) : Nat → Prop := fun i => i = p ∨ i = w ∨ i = kl
/-- need: 3 -/
def co_wanting (k : Nat) : Co := Co.of 2 (A := Nat × Nat × Nat × Nat) (fun a => [.obj a.1, .obj a.2.1]) (fun a S => PoolAt S a.1 ∧ BookAt S a.2.1 a.2.2.1 ws0 ∧ KeptAt S a.2.1 a.2.2.2 [] ∧ a.1 ≠ a.2.2.2 ∧ 3 ≤ k)
  (fun a S r S' => Ch (Pwk a.1 a.2.2.1 a.2.2.2) S S' ∧ PoolAt S' a.1 ∧ ∃ d ws, r = .obj d ∧ S.length ≤ d ∧ S'[d]? = some (.dct (kvs ws)) ∧ BookAt S' a.2.1 a.2.2.1 ws ∧ WnOk 7 ws ∧ WnX ws)
theorem ws0_ok : WnOk 2 ws0 := ⟨by decide, by decide, by decide +kernel⟩
theorem dput_get (ws : Wn) {x : List Nat} {m : Int} (hl : ws.lookup x = none) : dget (kvs (ws ++ [(x, m)])) (.str x) = some (.int m) := by
  rw [dget_kvs]
  have : (ws ++ [(x, m)]).lookup x = some m := by
    induction ws with
    | nil => simp
    | cons q ws ih =>
      rw [List.lookup_cons] at hl
      rw [List.cons_append, List.lookup_cons]
      cases h : x == q.1 with
      | true => rw [h] at hl; cases hl
      | false => rw [h] at hl; exact ih hl
  rw [this]
  rfl
theorem BookAt.ch {z : Nat → Prop} {S S' : Sta} {b w : Nat} {ws : Wn} (h : BookAt S b w ws) (x : Ch z S S') (nb : ¬ z b) (nw : ¬ z w) : BookAt S' b w ws := by
  obtain ⟨⟨fs, h1, h2⟩, h3⟩ := h
  exact ⟨⟨fs, x.get h1 nb, h2⟩, x.get h3 nw⟩
theorem KeptAt.ch {z : Nat → Prop} {S S' : Sta} {b kl : Nat} {ks : List T} (h : KeptAt S b kl ks) (x : Ch z S S') (nb : ¬ z b) (nk : ¬ z kl) : KeptAt S' b kl ks := by
  obtain ⟨⟨fs, h1, h2⟩, h3⟩ := h
  exact ⟨⟨fs, x.get h1 nb, h2⟩, x.get h3 nk⟩
theorem PoolAt.ch {z : Nat → Prop} {S S' : Sta} {p : Nat} (h : PoolAt S p) (x : Ch z S S') (np : ¬ z p) : PoolAt S' p := let ⟨a, d, n, e⟩ := h; ⟨a, d, n, x.get e np⟩
theorem st_wanting {W : Wd} {k : Nat} (hn : NoB W) (h11 : W.Γ 11 = co_names (k + 2)) (h12 : W.Γ 12 = co_take) (h13 : W.Γ 13 = co_declare_kind (k + 2)) {p b w kl : Nat} {S : Sta} {Q : T → Sta → Prop} (hp : PoolAt S p) (hB : BookAt S b w ws0) (hK : KeptAt S b kl []) (hne : p ≠ kl)
    (q : ∀ r S', (Ch (Pwk p w kl) S S' ∧ PoolAt S' p ∧ ∃ d ws, r = .obj d ∧ S.length ≤ d ∧ S'[d]? = some (.dct (kvs ws)) ∧ BookAt S' b w ws ∧ WnOk 7 ws ∧ WnX ws) → Q r S') :
    denS W b_law_wanting_0 (En0 Q) [some (.obj p), some (.obj b), none, none] S := by
  have hpl : p < S.length := by obtain ⟨_, _, _, e⟩ := hp; exact lt_of_some e
  have hwl : w < S.length := lt_of_some hB.wants
  have hkl : kl < S.length := lt_of_some hK.2
  have hbl : b < S.length := by obtain ⟨⟨_, e, _⟩, _⟩ := hB; exact lt_of_some e
  have hpw : p ≠ w := fun e => by subst e; obtain ⟨_, _, _, e⟩ := hp; rw [hB.wants] at e; cases e
  have hbp : b ≠ p := fun e => by subst e; obtain ⟨_, _, _, e⟩ := hp; obtain ⟨⟨_, e2, _⟩, _⟩ := hB; rw [e2] at e; cases e
  simp only [b_law_wanting_0, wLc2, wDc, wSk, shR, wZip, wsAug, wD2, denS, den, denA, denI, denO, denT, denG, denGs, wsSeq, wsN, wsIf, wsR, wsX, wsAsg, wsFld, wsBrk, wsCnt, wVar, wC, wTup, wLst, wDisp, wDict0, wOp, wChain, wAnd, wOr, wNot, wIf, wSl, wFld, wIsi, wCall, wBm, wApp, wMeth, wMethK, wNew, wNil, wCons, woN, woS, wgN, wgSub, wgTup, wgStar, wgNil, wgCons, wT, wYes, wLc, wIt, wRng1, wRng2, wsFor, wipeE, Bi.run, Bm.run, Bm.ty, List.getElem?_cons_zero, List.getElem?_cons_succ, List.set_cons_zero, List.set_cons_succ, Option.some.injEq, exists_eq_left', tru_bl, List.append_nil]
  refine ⟨by simp [sizeLine_val], by simp [sizeLine_val], by simp [sizeLine_val], gDict_new (ps := [(.str (tx "bool"), .int 0), (.str (tx "fun"), .int 2)]) rfl ?_⟩
  rw [ws0_make]
  have x1 : Ex S (S ++ [.lst [.tup [.str (tx "bool"), .int 0], .tup [.str (tx "fun"), .int 2]]]) := .app
  generalize S ++ [.lst [.tup [.str (tx "bool"), .int 0], .tup [.str (tx "fun"), .int 2]]] = S1 at x1 ⊢
  have hd2 : (S1 ++ [.dct (kvs ws0)])[S1.length]? = some (.dct (kvs ws0)) := get_new
  have x2 : Ex S (S1 ++ [.dct (kvs ws0)]) := x1.trans' .app
  have hdl : S.length ≤ S1.length := x1.len
  generalize hd : S1.length = d at hd2 hdl ⊢
  generalize S1 ++ [.dct (kvs ws0)] = S2 at x2 hd2 ⊢
  have hp2 := hp.ex x2
  have hB2 := hB.ex x2
  have hK2 : KeptAt S2 b kl [] := by
    obtain ⟨⟨fs, e1, e2⟩, e3⟩ := hK
    exact ⟨⟨fs, x2.get e1, e2⟩, x2.get e3⟩
  simp only [b_law_wanting_1, wLc2, wDc, wSk, shR, wZip, wsAug, wD2, denS, den, denA, denI, denO, denT, denG, denGs, wsSeq, wsN, wsIf, wsR, wsX, wsAsg, wsFld, wsBrk, wsCnt, wVar, wC, wTup, wLst, wDisp, wDict0, wOp, wChain, wAnd, wOr, wNot, wIf, wSl, wFld, wIsi, wCall, wBm, wApp, wMeth, wMethK, wNew, wNil, wCons, woN, woS, wgN, wgSub, wgTup, wgStar, wgNil, wgCons, wT, wYes, wLc, wIt, wRng1, wRng2, wsFor, wipeE, Bi.run, Bm.run, Bm.ty, List.getElem?_cons_zero, List.getElem?_cons_succ, List.set_cons_zero, List.set_cons_succ, Option.some.injEq, exists_eq_left', tru_bl, List.append_nil, h11, h12]
  refine ⟨rfl, p, rfl, ⟨hp2, by omega⟩, fun r S3 z => ?_⟩
  obtain ⟨x3, p3, l, rfl, hl, xs, hl3, hxl, hxs⟩ := z
  have hdl2 : d < S2.length := lt_of_some hd2
  refine do_take p3 (by decide) (by decide) fun i S4 x4 p4 a4 b4 => bin_add ?_
  have hl4 : S4[l]? = some (.lst (xs.map T.str)) := x4.get hl3 (show ¬ l = p by omega)
  simp only [slG, hl4]
  have c4 : Pc p S2 S4 := x3.trans x4 fun _ _ z => z
  have hB4 : BookAt S4 b w ws0 := by
    obtain ⟨⟨fs, e1, e2⟩, e3⟩ := hB2
    exact ⟨⟨fs, c4.get e1 hbp, e2⟩, c4.get e3 (Ne.symm hpw)⟩
  have hK4 : KeptAt S4 b kl [] := by
    obtain ⟨⟨fs, e1, e2⟩, e3⟩ := hK2
    exact ⟨⟨fs, c4.get e1 hbp, e2⟩, c4.get e3 (Ne.symm hne)⟩
  have hd4 : S4[d]? = some (.dct (kvs ws0)) := c4.get hd2 (show ¬ d = p by omega)
  have hl4' : l < S4.length := lt_of_some hl4
  have hll : S.length ≤ S4.length := by omega
  generalize hcs : cutL (xs.map T.str) none (some (1 + i)) = cs
  have hcl : cs.length ≤ 5 := by
    rw [← hcs]
    unfold cutL HT.sIx
    simp only [List.length_take, List.length_drop]
    rw [if_neg (by omega)]
    omega
  have hcm : ∀ x ∈ cs, ∃ y, x = T.str y ∧ nameOk y = true := fun x hx => by
    rw [← hcs] at hx
    unfold cutL at hx
    obtain ⟨y, hy, rfl⟩ := List.mem_map.mp (List.mem_of_mem_drop (List.mem_of_mem_take hx))
    exact ⟨y, rfl, hxs y hy⟩
  refine iterW_lst get_new (forW_by (fun j ρ S' => S'[S4.length]? = some (.lst cs) ∧ Ch (Pwk p w kl) S S' ∧ PoolAt S' p ∧ (∃ o, ρ = [some (.obj p), some (.obj b), some (.obj d), o]) ∧ ∃ ws ks, S'[d]? = some (.dct (kvs ws)) ∧ BookAt S' b w ws ∧ KeptAt S' b kl ks ∧ WnOk (2 + j) ws ∧ ks.length ≤ j ∧ WnX ws)
    ⟨get_new, ?_, p4.ex .app, ⟨_, rfl⟩, ws0, [], get_app hd4, hB4.ex .app, ?_, ws0_ok, by simp, ⟨[], by simp⟩, by decide +kernel⟩ (fun _ _ _ h => h.1) (fun j x ρ S' e h => ?_) (fun ρ S' h => ?_) (mono_denS W _))
  · exact ((x2.ch (w := Pwk p w kl)).trans c4 fun _ _ z => .inl z).trans (Ch.app (w := fun _ => False)) fun _ _ z => z.elim
  · obtain ⟨⟨fs, e1, e2⟩, e3⟩ := hK4
    exact ⟨⟨fs, get_app e1, e2⟩, get_app e3⟩
  · obtain ⟨hcs', c5, p5, ⟨o, rfl⟩, ws, ks, hd5, hB5, hK5, hws, hks, hwx⟩ := h
    obtain ⟨y, rfl, hy⟩ := hcm x (List.mem_of_getElem? e)
    have hj : j < 5 := by have := (List.getElem?_eq_some_iff.mp e).1; omega
    refine ⟨_, bd_nm _ _ _ _, ?_⟩
    simp only [b_law_wanting_1l_0, wLc2, wDc, wSk, shR, wZip, wsAug, wD2, denS, den, denA, denI, denO, denT, denG, denGs, wsSeq, wsN, wsIf, wsR, wsX, wsAsg, wsFld, wsBrk, wsCnt, wVar, wC, wTup, wLst, wDisp, wDict0, wOp, wChain, wAnd, wOr, wNot, wIf, wSl, wFld, wIsi, wCall, wBm, wApp, wMeth, wMethK, wNew, wNil, wCons, woN, woS, wgN, wgSub, wgTup, wgStar, wgNil, wgCons, wT, wYes, wLc, wIt, wRng1, wRng2, wsFor, wipeE, Bi.run, Bm.run, Bm.ty, List.getElem?_cons_zero, List.getElem?_cons_succ, List.set_cons_zero, List.set_cons_succ, Option.some.injEq, exists_eq_left', tru_bl, List.append_nil]
    refine cg_notin_dct hd5 rfl ?_
    rw [dget_kvs]
    cases hlk : ws.lookup y with
    | some m =>
      simp only [Option.map_some, Option.isSome_some, Bool.not_true, tru_bl, Bool.false_eq_true, if_false]
      exact ⟨hcs', c5, p5, ⟨_, rfl⟩, ws, ks, hd5, hB5, hK5, ⟨by have := hws.1; omega, hws.2⟩, by omega, hwx⟩
    | none =>
      simp only [Option.map_none, Option.isSome_none, Bool.not_false, tru_bl, if_true]
      simp only [b_law_wanting_1l_0t_0, wLc2, wDc, wSk, shR, wZip, wsAug, wD2, denS, den, denA, denI, denO, denT, denG, denGs, wsSeq, wsN, wsIf, wsR, wsX, wsAsg, wsFld, wsBrk, wsCnt, wVar, wC, wTup, wLst, wDisp, wDict0, wOp, wChain, wAnd, wOr, wNot, wIf, wSl, wFld, wIsi, wCall, wBm, wApp, wMeth, wMethK, wNew, wNil, wCons, woN, woS, wgN, wgSub, wgTup, wgStar, wgNil, wgCons, wT, wYes, wLc, wIt, wRng1, wRng2, wsFor, wipeE, Bi.run, Bm.run, Bm.ty, List.getElem?_cons_zero, List.getElem?_cons_succ, List.set_cons_zero, List.set_cons_succ, Option.some.injEq, exists_eq_left', tru_bl, List.append_nil, h12]
      refine do_take p5 (by decide) (by decide) fun m S6 x6 p6 m0 m4 => ?_
      have hd6 : S6[d]? = some (.dct (kvs ws)) := x6.get hd5 (show ¬ d = p by omega)
      have hB6 := hB5.ch x6 hbp (Ne.symm hpw)
      have hK6 := hK5.ch x6 hbp (Ne.symm hne)
      have hcs6 := x6.get hcs' (show ¬ S4.length = p by omega)
      refine setW_dct hd6 rfl (by have := hws.1; simp [kvs]; omega) ?_
      rw [dput_new ws m hlk]
      have x7 : Ch (fun i => i = d) S6 (S6.set d (.dct (kvs (ws ++ [(y, m)])))) := Ch.set (fun _ => rfl) (by rw [hd6]; rfl)
      have hd7 := get_set (c := .dct (kvs (ws ++ [(y, m)]))) hd6
      have hB7 := hB6.ch x7 (by omega) (by omega)
      have hK7 := hK6.ch x7 (by omega) (by omega)
      have hcs7 := x7.get hcs6 (show ¬ S4.length = d by omega)
      have p7 := p6.ch x7 (show ¬ p = d by omega)
      have c7 : Ch (Pwk p w kl) S (S6.set d (.dct (kvs (ws ++ [(y, m)])))) := (c5.trans x6 fun _ _ z => .inl z).trans x7 fun i hi z => absurd z (show ¬ i = d by omega)
      generalize S6.set d (.dct (kvs (ws ++ [(y, m)]))) = S7 at x7 hd7 hB7 hK7 hcs7 p7 c7 ⊢
      have fin : ∀ (S8 : Sta), Ch (fun i => i = w ∨ i = kl) S7 S8 → BookAt S8 b w (ws ++ [(y, m)]) → (∃ row, KeptAt S8 b kl (ks ++ [row])) → S8[S4.length]? = some (.lst cs) ∧ Ch (Pwk p w kl) S S8 ∧ PoolAt S8 p ∧ (∃ o, [some (T.obj p), some (.obj b), some (.obj d), some (.str y)] = [some (.obj p), some (.obj b), some (.obj d), o]) ∧ ∃ ws ks, S8[d]? = some (.dct (kvs ws)) ∧ BookAt S8 b w ws ∧ KeptAt S8 b kl ks ∧ WnOk (2 + (j + 1)) ws ∧ ks.length ≤ j + 1 ∧ WnX ws := by
        intro S8 x8 hB8 hK8
        obtain ⟨row, hK8⟩ := hK8
        refine ⟨x8.get hcs7 (by omega), c7.trans x8 fun _ _ z => .inr z, p7.ch x8 (by omega), ⟨_, rfl⟩, _, _, x8.get hd7 (by omega), hB8, hK8, ⟨?_, ?_, fun z hz => ?_⟩, ?_, hwx.snoc hlk⟩
        · have := hws.1
          rw [List.length_append, List.length_singleton]
          omega
        · have := hws.2.1
          rw [List.length_append, List.length_singleton]
          omega
        · rcases List.mem_append.mp hz with hz | hz
          · exact hws.2.2 z hz
          · rw [List.mem_singleton.mp hz]
            exact ⟨m0, by show m ≤ 3; omega, hy⟩
        · rw [List.length_append, List.length_singleton]
          omega
      simp only [b_law_wanting_1l_0t_1, wLc2, wDc, wSk, shR, wZip, wsAug, wD2, denS, den, denA, denI, denO, denT, denG, denGs, wsSeq, wsN, wsIf, wsR, wsX, wsAsg, wsFld, wsBrk, wsCnt, wVar, wC, wTup, wLst, wDisp, wDict0, wOp, wChain, wAnd, wOr, wNot, wIf, wSl, wFld, wIsi, wCall, wBm, wApp, wMeth, wMethK, wNew, wNil, wCons, woN, woS, wgN, wgSub, wgTup, wgStar, wgNil, wgCons, wT, wYes, wLc, wIt, wRng1, wRng2, wsFor, wipeE, Bi.run, Bm.run, Bm.ty, List.getElem?_cons_zero, List.getElem?_cons_succ, List.set_cons_zero, List.set_cons_succ, Option.some.injEq, exists_eq_left', tru_bl, List.append_nil, h13]
      refine ixG_dct hd7 rfl (dput_get ws hlk) (cg_eq_int ?_)
      simp only [tru_bl]
      obtain ⟨⟨fs, eb, ef, eF⟩, _⟩ := id hB7
      have hins : insOf S7 (tx "Book") (tx "declare_kind") (.obj b) := insOf_ok eb (lookup_keys eF (by decide +kernel))
      have hB5' : BookAt S7 b w ws := hB7
      by_cases hm0 : m = 0
      · subst hm0
        simp only [decide_true, if_true]
        refine ⟨hins, rfl, (b, w, kl, ws, ks, y, 0), rfl, ⟨hB5', hK7, (show ks.length < 1000 by omega), (show ws.length < 1000 by have := hws.1; omega), hy, hlk, (show (0 : Int) ≤ 0 by decide), (show (0 : Int) ≤ 3 by decide), (show 2 ≤ k + 2 by omega)⟩, fun r S8 z => ?_⟩
        obtain ⟨x8, hB8, hK8, _⟩ := z
        exact fin S8 x8 hB8 ⟨_, hK8⟩
      · simp only [decide_eq_false hm0, Bool.false_eq_true, if_false]
        refine ⟨hins, ixG_dct hd7 rfl (dput_get ws hlk) ⟨rfl, rfl, rfl, (b, w, kl, ws, ks, y, m), rfl, ⟨hB5', hK7, (show ks.length < 1000 by omega), (show ws.length < 1000 by have := hws.1; omega), hy, hlk, m0, (show m ≤ 3 by omega), (show 2 ≤ k + 2 by omega)⟩, fun r S8 z => ?_⟩⟩
        obtain ⟨x8, hB8, hK8, _⟩ := z
        exact fin S8 x8 hB8 ⟨_, hK8⟩
  · obtain ⟨_, c8, p8, ⟨o, rfl⟩, ws, ks, hd8, hB8, hK8, hws, _, hwx⟩ := h
    simp only [b_law_wanting_2, wLc2, wDc, wSk, shR, wZip, wsAug, wD2, denS, den, denA, denI, denO, denT, denG, denGs, wsSeq, wsN, wsIf, wsR, wsX, wsAsg, wsFld, wsBrk, wsCnt, wVar, wC, wTup, wLst, wDisp, wDict0, wOp, wChain, wAnd, wOr, wNot, wIf, wSl, wFld, wIsi, wCall, wBm, wApp, wMeth, wMethK, wNew, wNil, wCons, woN, woS, wgN, wgSub, wgTup, wgStar, wgNil, wgCons, wT, wYes, wLc, wIt, wRng1, wRng2, wsFor, wipeE, Bi.run, Bm.run, Bm.ty, List.getElem?_cons_zero, List.getElem?_cons_succ, List.set_cons_zero, List.set_cons_succ, Option.some.injEq, exists_eq_left', tru_bl, List.append_nil]
    exact q _ _ ⟨c8, p8, d, ws, rfl, hdl, hd8, hB8, ⟨by have := hws.1; omega, hws.2⟩, hwx⟩
end TR
set_option Elab.async false
set_option linter.all false
set_option maxRecDepth 100000
set_option maxHeartbeats 2000000
/-! TK7: kinds drawn, spoilt ones. -/
namespace TR
open PySem PySem.Spec L2
open PyProof.Rows hiding St

theorem wf_nil {S : Sta} {t : T} (h : wf [] t = true) : wf S t = true := wf_mono (w := fun _ => False) (S := []) ⟨Nat.zero_le _, fun i hi => absurd hi (Nat.not_lt_zero _), fun i hi => absurd hi (Nat.not_lt_zero _)⟩ h
/-- need: deep + 2 -/
def co_some_kind (k : Nat) : Co := Co.of 3 (A := Nat × Nat × Wn × Nat) (fun a => [.obj a.1, .obj a.2.1, .int (a.2.2.2 : Int)]) (fun a S => PoolAt S a.1 ∧ S[a.2.1]? = some (.dct (kvs a.2.2.1)) ∧ WnOk 7 a.2.2.1 ∧ a.2.2.2 + 2 ≤ k)
  (fun a S r S' => Pc a.1 S S' ∧ PoolAt S' a.1 ∧ kindT a.2.2.1 r = true ∧ wf [] r = true ∧ dep r ≤ a.2.2.2)
theorem keys_kvs (ws : Wn) : strsOf ((kvs ws).map (·.1)) = some (ws.map (·.1)) := by
  have : (kvs ws).map (·.1) = (ws.map (·.1)).map T.str := by simp [kvs, List.map_map, Function.comp_def]
  rw [this, strsOf_map]
theorem wn_lookup {n : Nat} {ws : Wn} (h : WnOk n ws) {y : List Nat} (hy : y ∈ ws.map (·.1)) : ∃ m, ws.lookup y = some m ∧ 0 ≤ m ∧ m ≤ 3 ∧ nameOk y = true := by
  have h3 := h.2.2
  clear h
  induction ws with
  | nil => cases hy
  | cons q ws ih =>
    rw [List.lookup_cons]
    cases e : y == q.1 with
    | true =>
      have ey : y = q.1 := by simpa using e
      obtain ⟨a, b, c⟩ := h3 q List.mem_cons_self
      exact ⟨q.2, rfl, a, b, by rw [ey]; exact c⟩
    | false =>
      rw [List.map_cons] at hy
      rcases List.mem_cons.mp hy with rfl | hy
      · simp at e
      · exact ih hy fun z hz => h3 z (List.mem_cons_of_mem _ hz)
theorem gSorted_ok {S : Sta} {d : Nat} {ws : Wn} {Q : T → Sta → Prop} (hd : S[d]? = some (.dct (kvs ws))) (hl : ws.length ≤ 7) (q : ∀ ys : List (List Nat), ys.Perm (ws.map (·.1)) → Q (.obj S.length) (S ++ [.lst (ys.map .str)])) : gSorted [.obj d] S Q := by
  simp only [gSorted, hd]
  exact ⟨_, keys_kvs ws, by rw [List.length_map]; omega, fun ys h _ => q ys h⟩
theorem gTuple_new {S : Sta} {xs : List T} {Q : T → Sta → Prop} (q : Q (.tup xs) (S ++ [.lst xs])) : gTuple [.obj S.length] (S ++ [.lst xs]) Q := by
  simp only [gTuple, get_new]
  exact q
theorem deps_le {D : Nat} : ∀ {ts : List T}, (∀ t ∈ ts, dep t ≤ D) → deps ts ≤ D
  | [], _ => Nat.zero_le _
  | t :: ts, h => by
    unfold deps
    exact Nat.max_le.mpr ⟨h t List.mem_cons_self, deps_le fun u hu => h u (List.mem_cons_of_mem _ hu)⟩
theorem st_some_kind {W : Wd} {k : Nat} (h6 : W.Γ 6 = co_some_kind (k + 1)) (h11 : W.Γ 11 = co_names (k + 1)) (h12 : W.Γ 12 = co_take) {p d : Nat} {ws : Wn} {deep : Nat} {S : Sta} {Q : T → Sta → Prop} (hp : PoolAt S p) (hd : S[d]? = some (.dct (kvs ws))) (hws : WnOk 7 ws) (hk : deep ≤ k)
    (q : ∀ r S', (Pc p S S' ∧ PoolAt S' p ∧ kindT ws r = true ∧ wf [] r = true ∧ dep r ≤ deep) → Q r S') : denS W b_law_some_kind_0 (En0 Q) [some (.obj p), some (.obj d), some (.int (deep : Int)), none, none, none] S := by
  have hdp : d ≠ p := fun e => by subst e; obtain ⟨_, _, _, e⟩ := hp; rw [hd] at e; cases e
  have base : ∀ S1, Pc p S S1 → PoolAt S1 p → denS W (.cons (.ret (.ix (.app 11 [] (.cons (.var 0) .nil)) (.c (.int 0)))) .nil) (En0 Q) [some (.obj p), some (.obj d), some (.int (deep : Int)), none, none, none] S1 := fun S1 x1 p1 => by
    simp only [wLc2, wDc, wSk, shR, wZip, wsAug, wD2, denS, den, denA, denI, denO, denT, denG, denGs, wsSeq, wsN, wsIf, wsR, wsX, wsAsg, wsFld, wsBrk, wsCnt, wVar, wC, wTup, wLst, wDisp, wDict0, wOp, wChain, wAnd, wOr, wNot, wIf, wSl, wFld, wIsi, wCall, wBm, wApp, wMeth, wMethK, wNew, wNil, wCons, woN, woS, wgN, wgSub, wgTup, wgStar, wgNil, wgCons, wT, wYes, wLc, wIt, wRng1, wRng2, wsFor, wipeE, Bi.run, Bm.run, Bm.ty, List.getElem?_cons_zero, List.getElem?_cons_succ, List.set_cons_zero, List.set_cons_succ, Option.some.injEq, exists_eq_left', tru_bl, List.append_nil, h11]
    refine ⟨rfl, p, rfl, ⟨p1, by omega⟩, fun r S2 z => ?_⟩
    obtain ⟨x2, p2, l, rfl, hl, xs, hl2, hxl, hxs⟩ := z
    obtain ⟨t, ht, hm⟩ := atI_int (xs := xs.map T.str) (i := 0) (by decide) (by rw [List.length_map, hxl]; decide)
    obtain ⟨y, hy, rfl⟩ := List.mem_map.mp hm
    refine ixG_lst hl2 ht (q _ _ ⟨x1.trans x2 fun _ _ z => z, p2, ?_, wf_name (hxs y hy), Nat.zero_le _⟩)
    simp only [kindT]
    exact hxs y hy
  have rest : ∀ S1, Pc p S S1 → PoolAt S1 p → 1 ≤ deep → denS W b_law_some_kind_1 (En0 Q) [some (.obj p), some (.obj d), some (.int (deep : Int)), none, none, none] S1 := fun S1 x1 p1 h1 => by
    have hd1 := x1.get hd hdp
    simp only [b_law_some_kind_1, wLc2, wDc, wSk, shR, wZip, wsAug, wD2, denS, den, denA, denI, denO, denT, denG, denGs, wsSeq, wsN, wsIf, wsR, wsX, wsAsg, wsFld, wsBrk, wsCnt, wVar, wC, wTup, wLst, wDisp, wDict0, wOp, wChain, wAnd, wOr, wNot, wIf, wSl, wFld, wIsi, wCall, wBm, wApp, wMeth, wMethK, wNew, wNil, wCons, woN, woS, wgN, wgSub, wgTup, wgStar, wgNil, wgCons, wT, wYes, wLc, wIt, wRng1, wRng2, wsFor, wipeE, Bi.run, Bm.run, Bm.ty, List.getElem?_cons_zero, List.getElem?_cons_succ, List.set_cons_zero, List.set_cons_succ, Option.some.injEq, exists_eq_left', tru_bl, List.append_nil]
    refine gSorted_ok hd1 hws.1 fun ys hys => ?_
    have hyl : ys.length = ws.length := by rw [hys.length_eq, List.length_map]
    have n1 : (S1 ++ [.lst (ys.map T.str)])[S1.length]? = some (.lst (ys.map T.str)) := get_new
    have x2 : Pc p S (S1 ++ [.lst (ys.map T.str)]) := x1.trans (Ch.app (w := fun _ => False)) fun _ _ z => z.elim
    have p2 : PoolAt (S1 ++ [.lst (ys.map T.str)]) p := p1.ex .app
    have hpl : p < S1.length := by obtain ⟨_, _, _, e⟩ := p1; exact lt_of_some e
    generalize S1 ++ [.lst (ys.map T.str)] = S2 at n1 x2 p2 ⊢
    simp only [b_law_some_kind_2, wLc2, wDc, wSk, shR, wZip, wsAug, wD2, denS, den, denA, denI, denO, denT, denG, denGs, wsSeq, wsN, wsIf, wsR, wsX, wsAsg, wsFld, wsBrk, wsCnt, wVar, wC, wTup, wLst, wDisp, wDict0, wOp, wChain, wAnd, wOr, wNot, wIf, wSl, wFld, wIsi, wCall, wBm, wApp, wMeth, wMethK, wNew, wNil, wCons, woN, woS, wgN, wgSub, wgTup, wgStar, wgNil, wgCons, wT, wYes, wLc, wIt, wRng1, wRng2, wsFor, wipeE, Bi.run, Bm.run, Bm.ty, List.getElem?_cons_zero, List.getElem?_cons_succ, List.set_cons_zero, List.set_cons_succ, Option.some.injEq, exists_eq_left', tru_bl, List.append_nil, h12]
    have hy2 := hws.2.1
    refine gLen_lst n1 (do_take p2 (by rw [List.length_map, hyl]; omega) (by rw [List.length_map, hyl]; have := hws.1; omega) fun i S3 x3 p3 a3 b3 => ?_)
    have n3 := x3.get n1 (show ¬ S1.length = p by omega)
    have x3' : Pc p S S3 := x2.trans x3 fun _ _ z => z
    obtain ⟨t, ht, hm⟩ := atI_int (xs := ys.map T.str) a3 b3
    obtain ⟨y, hy, rfl⟩ := List.mem_map.mp hm
    obtain ⟨m, hlk, m0, m3, hny⟩ := wn_lookup hws (hys.mem_iff.mp hy)
    refine ixG_lst n3 ht ?_
    have hd3 := x3'.get hd hdp
    simp only [b_law_some_kind_3, wLc2, wDc, wSk, shR, wZip, wsAug, wD2, denS, den, denA, denI, denO, denT, denG, denGs, wsSeq, wsN, wsIf, wsR, wsX, wsAsg, wsFld, wsBrk, wsCnt, wVar, wC, wTup, wLst, wDisp, wDict0, wOp, wChain, wAnd, wOr, wNot, wIf, wSl, wFld, wIsi, wCall, wBm, wApp, wMeth, wMethK, wNew, wNil, wCons, woN, woS, wgN, wgSub, wgTup, wgStar, wgNil, wgCons, wT, wYes, wLc, wIt, wRng1, wRng2, wsFor, wipeE, Bi.run, Bm.run, Bm.ty, List.getElem?_cons_zero, List.getElem?_cons_succ, List.set_cons_zero, List.set_cons_succ, Option.some.injEq, exists_eq_left', tru_bl, List.append_nil]
    refine ⟨by simp [sizeLine_val], ixG_dct (t := .int m) hd3 rfl (by rw [dget_kvs, hlk]; rfl) ?_⟩
    refine ⟨by omega, by omega, ?_⟩
    refine lcW_by (fun i acc S' => Pc p S S' ∧ PoolAt S' p ∧ acc.length = i ∧ ∀ t ∈ acc, kindT ws t = true ∧ wf [] t = true ∧ dep t ≤ deep - 1) ⟨x3', p3, rfl, fun _ h => by cases h⟩ (fun _ _ _ _ => trivial) (fun j x acc S' e h => ?_) (fun acc S' h => ?_) mono_yes (mono_den W _)
    · obtain ⟨x4, p4, hal, hacc⟩ := h
      obtain ⟨rfl, hj⟩ := rng_mem e
      refine ⟨_, bd_nm _ _ _ _, ?_⟩
      simp only [x_law_some_kind_3_e0, wLc2, wDc, wSk, shR, wZip, wsAug, wD2, denS, den, denA, denI, denO, denT, denG, denGs, wsSeq, wsN, wsIf, wsR, wsX, wsAsg, wsFld, wsBrk, wsCnt, wVar, wC, wTup, wLst, wDisp, wDict0, wOp, wChain, wAnd, wOr, wNot, wIf, wSl, wFld, wIsi, wCall, wBm, wApp, wMeth, wMethK, wNew, wNil, wCons, woN, woS, wgN, wgSub, wgTup, wgStar, wgNil, wgCons, wT, wYes, wLc, wIt, wRng1, wRng2, wsFor, wipeE, Bi.run, Bm.run, Bm.ty, List.getElem?_cons_zero, List.getElem?_cons_succ, List.set_cons_zero, List.set_cons_succ, Option.some.injEq, exists_eq_left', tru_bl, List.append_nil, h6, if_true]
      refine bin_sub ⟨rfl, (p, d, ws, deep - 1), ?_, ⟨p4, x4.get hd hdp, hws, (show deep - 1 + 2 ≤ k + 1 by omega)⟩, fun r S5 z => ?_⟩
      · show _ = [T.obj p, T.obj d, T.int ((deep - 1 : Nat) : Int)]
        rw [Int.ofNat_sub h1]
        rfl
      · obtain ⟨x5, p5, k5, w5, d5⟩ := z
        refine ⟨by rw [hal, sizeLine_val]; omega, x4.trans x5 fun _ _ z => z, p5, by rw [List.length_append, hal]; rfl, fun t ht => ?_⟩
        rcases List.mem_append.mp ht with ht | ht
        · exact hacc t ht
        · rw [List.mem_singleton.mp ht]
          exact ⟨k5, w5, d5⟩
    · obtain ⟨x4, p4, hal, hacc⟩ := h
      rw [rng_len] at hal
      refine gTuple_new (bin_tup (by simp [hal]; omega) (q _ _ ⟨x4.trans (Ch.app (w := fun _ => False)) fun _ _ z => z.elim, p4.ex .app, ?_, ?_, ?_⟩))
      · have hm : ((acc.length : Nat) : Int) = m := by rw [hal]; omega
        show kindU ws (.str y :: acc) = true
        simp only [kindU, hlk, decide_eq_true hm, Bool.true_and, kindsT_all]
        exact List.all_eq_true.mpr fun t ht => (hacc t ht).1
      · refine wf_tup.mpr ⟨by simp [hal]; omega, ?_⟩
        refine wfs_of fun t ht => ?_
        rcases List.mem_cons.mp ht with rfl | ht
        · exact wf_name hny
        · exact (hacc t ht).2.1
      · show deps (.str y :: acc) + 1 ≤ deep
        have : deps (.str y :: acc) ≤ deep - 1 := deps_le fun t ht => by
          rcases List.mem_cons.mp ht with rfl | ht
          · exact Nat.zero_le _
          · exact (hacc t ht).2.2
        omega
  simp only [b_law_some_kind_0]
  simp only [denS, wsSeq, wsIf, den, denA, wOr, wOp, wVar, wC, List.getElem?_cons_zero, List.getElem?_cons_succ, Option.some.injEq, exists_eq_left', wApp, wCons, wNil, h12, List.append_nil]
  refine cg_eq_int ?_
  simp only [tru_bl]
  by_cases h0 : (deep : Int) = 0
  · simp only [decide_eq_true h0, if_true]
    exact base S .rfl' hp
  · simp only [decide_eq_false h0, Bool.false_eq_true, if_false]
    refine do_take hp (by decide) (by decide) fun i S1 x1 p1 a1 b1 => cg_eq_int ?_
    simp only [tru_bl]
    split
    · exact base S1 x1 p1
    · exact rest S1 x1 p1 (by omega)
end TR
set_option Elab.async false
set_option linter.all false
set_option maxRecDepth 100000
set_option maxHeartbeats 2000000
/-! TB2: bodies. -/
namespace TR
open PySem PySem.Spec L2
open PyProof.Rows hiding St
/-! law_k02 -/
def b_law_k02_1 : S := .cons (.ret (.c (.bl true))) .nil
def b_law_k02_0l_3l_0 : S := .cons (.ite (.cmp .NotIn (.var 4) (.lst (.cons (.c (.str (tx "bool"))) (.cons (.c (.str (tx "fun"))) .nil)))) (.cons (.x (.methK (tx "Book") (tx "declare_kind") 13 2 1 (.var 8) (.cons (.var 4) .nil) (.cons (.ix (.var 3) (.var 4)) .nil))) .nil) .nil) .nil
def b_law_k02_0l_5l_3 : S := .cons (.ite (.or (.not (.app 21 [] (.cons (.app 23 [] (.cons (.var 8) (.cons (.var 10) .nil))) (.cons (.var 9) .nil)))) (.cmp .NotEq (.d2 .setd (.var 5) (.var 10) (.var 9)) (.var 9))) (.cons (.ret (.c (.bl false))) .nil) .nil) .nil
def b_law_k02_0l_5l_2 : S := .cons (.ite (.or (.cmp .NotEq (.var 10) (.app 20 [] (.cons (.var 9) .nil))) (.not (.app 21 [] (.cons (.app 23 [] (.cons (.var 7) (.cons (.var 10) .nil))) (.cons (.var 9) .nil))))) (.cons (.ret (.c (.bl false))) .nil) .nil) b_law_k02_0l_5l_3
def b_law_k02_0l_5l_1 : S := .cons (.asg (.nm 10) (.app 20 [] (.cons (.var 9) .nil))) b_law_k02_0l_5l_2
def b_law_k02_0l_5l_0 : S := .cons (.asg (.nm 9) (.app 6 [] (.cons (.var 2) (.cons (.var 3) (.cons (.c (.int 3)) .nil))))) b_law_k02_0l_5l_1
def b_law_k02_0l_5 : S := .cons (.for_ (.rng1 (.c (.int 8))) (.nm 6) b_law_k02_0l_5l_0) .nil
def b_law_k02_0l_4 : S := .cons (.asg (.nm 5) .dict0) b_law_k02_0l_5
def b_law_k02_0l_3 : S := .cons (.for_ (.w (.bi .sorted (.cons (.var 3) .nil))) (.nm 4) b_law_k02_0l_3l_0) b_law_k02_0l_4
def b_law_k02_0l_2 : S := .cons (.asg (.nm 3) (.app 5 [] (.cons (.var 2) (.cons (.var 7) .nil)))) b_law_k02_0l_3
def b_law_k02_0l_1 : S := .cons (.asg (.tup 2 (.cons (.nm 7) (.cons (.nm 8) .nil))) (.tup (.cons (.new (tx "Book") 3 [] .nil) (.cons (.new (tx "Book") 3 [] .nil) .nil)))) b_law_k02_0l_2
def b_law_k02_0l_0 : S := .cons (.asg (.nm 2) (.app 1 [] (.cons (.app 2 [] (.cons (.var 0) (.cons (.var 1) .nil))) .nil))) b_law_k02_0l_1
def b_law_k02_0 : S := .cons (.for_ (.rng1 (.bi .max (.cons (.c (.int 1)) (.cons (.bi .min (.cons (.bi .len (.cons (.var 0) .nil)) (.cons (.c (.int 10)) .nil))) .nil)))) (.nm 1) b_law_k02_0l_0) b_law_k02_1
/-! show_kind -/
def x_show_kind_1_e0 : E := (.app 20 [] (.cons (.var 1) .nil))
def b_show_kind_1 : S := .cons (.ret (.bm .join (.c (.str (tx " "))) (.cons (.bin .Add (.lst (.cons (.ix (.var 0) (.c (.int 0))) .nil)) (.lc (.w (.sl (.var 0) (.w (.c (.int 1))) .nil)) (.nm 1) .nil x_show_kind_1_e0 [1])) .nil))) .nil
def b_show_kind_0 : S := .cons (.ite (.isi .str (.var 0)) (.cons (.ret (.bin .Add (.c (.str (tx "?"))) (.var 0))) .nil) .nil) b_show_kind_1
/-! law_same -/
def x_law_same_0_e0 : E := (.app 21 [] (.cons (.var 2) (.cons (.var 3) .nil)))
def b_law_same_1 : S := .cons (.ret (.and (.isi .str (.var 0)) (.cmp .Eq (.var 0) (.var 1)))) .nil
def b_law_same_0 : S := .cons (.ite (.isi .tuple (.var 1)) (.cons (.ret (.and (.isi .tuple (.var 0)) (.and (.cmp .Eq (.bi .len (.cons (.var 0) .nil)) (.bi .len (.cons (.var 1) .nil))) (.bi .all (.cons (.lc (.zip (.var 0) (.var 1)) (.tup 2 (.cons (.nm 2) (.cons (.nm 3) .nil))) .nil x_law_same_0_e0 [2, 3]) .nil))))) .nil) .nil) b_law_same_1
/-! read_kind -/
def b_read_kind_4 : S := .cons (.ret (.ix (.var 3) (.c (.int 0)))) .nil
def b_read_kind_3 : S := .cons (.ite (.or (.cmp .Is (.var 3) (.c .non)) (.cmp .Lt (.ix (.var 3) (.c (.int 1))) (.bi .len (.cons (.var 2) .nil)))) (.cons .no .nil) .nil) b_read_kind_4
def b_read_kind_2 : S := .cons (.asg (.nm 3) (.app 22 [] (.cons (.var 0) (.cons (.var 2) (.cons (.c (.int 0)) .nil))))) b_read_kind_3
def b_read_kind_1 : S := .cons (.asg (.nm 2) (.bm .split (.var 1) (.cons (.c (.str (tx " "))) .nil))) b_read_kind_2
def b_read_kind_0 : S := .cons (.ite (.not (.isi .str (.var 1))) (.cons .no .nil) .nil) b_read_kind_1
/-! kind_words -/
def b_kind_words_6 : S := .cons (.ret (.tup (.cons (.var 5) (.cons (.var 6) .nil)))) .nil
def b_kind_words_5l_3 : S := .cons (.aug 5 (.tup (.cons (.var 8) .nil))) .nil
def b_kind_words_5l_2 : S := .cons (.asg (.tup 2 (.cons (.nm 8) (.cons (.nm 6) .nil))) (.var 7)) b_kind_words_5l_3
def b_kind_words_5l_1 : S := .cons (.ite (.cmp .Is (.var 7) (.c .non)) (.cons (.ret (.c .non)) .nil) .nil) b_kind_words_5l_2
def b_kind_words_5l_0 : S := .cons (.asg (.nm 7) (.app 22 [] (.cons (.var 0) (.cons (.var 1) (.cons (.var 6) .nil))))) b_kind_words_5l_1
def b_kind_words_5 : S := .cons (.for_ (.rng1 (.ix (.fld (.var 0) (tx "wants")) (.var 3))) (.nm 4) b_kind_words_5l_0) b_kind_words_6
def b_kind_words_4 : S := .cons (.asg (.tup 2 (.cons (.nm 5) (.cons (.nm 6) .nil))) (.tup (.cons (.tup (.cons (.var 3) .nil)) (.cons (.bin .Add (.var 2) (.c (.int 1))) .nil)))) b_kind_words_5
def b_kind_words_3 : S := .cons (.ite (.cmp .NotIn (.var 3) (.fld (.var 0) (tx "wants"))) (.cons (.ret (.c .non)) .nil) .nil) b_kind_words_4
def b_kind_words_2 : S := .cons (.ite (.cmp .Eq (.sl (.var 3) .nil (.w (.c (.int 1)))) (.c (.str (tx "?")))) (.cons (.ret (.ite (.app 16 [] (.cons (.sl (.var 3) (.w (.c (.int 1))) .nil) .nil)) (.tup (.cons (.sl (.var 3) (.w (.c (.int 1))) .nil) (.cons (.bin .Add (.var 2) (.c (.int 1))) .nil))) (.c .non))) .nil) .nil) b_kind_words_3
def b_kind_words_1 : S := .cons (.asg (.nm 3) (.ix (.var 1) (.var 2))) b_kind_words_2
def b_kind_words_0 : S := .cons (.ite (.cmp .GtE (.var 2) (.bi .len (.cons (.var 1) .nil))) (.cons (.ret (.c .non)) .nil) .nil) b_kind_words_1
end TR
set_option Elab.async false
set_option linter.all false
set_option maxRecDepth 100000
set_option maxHeartbeats 2000000
/-! TK12: kinds' texts. -/
namespace TR
open PySem PySem.Spec L2
open PyProof.Rows hiding St

mutual
/-- the shape of a kind -/
def isKT : T → Bool
  | .str _ => true
  | .tup ts => isKU ts
  | .non => false
  | .bl _ => false
  | .int _ => false
  | .frz _ => false
  | .obj _ => false
def isKU : List T → Bool
  | [] => false
  | h :: ps => (match h with
    | .str _ => true
    | _ => false) && isKTs ps
def isKTs : List T → Bool
  | [] => true
  | t :: ts => isKT t && isKTs ts
end
mutual
/-- the words of a kind's text -/
def wordsT : T → List (List Nat)
  | .str x => [63 :: x]
  | .tup ts => wordsU ts
  | .non => []
  | .bl _ => []
  | .int _ => []
  | .frz _ => []
  | .obj _ => []
def wordsU : List T → List (List Nat)
  | [] => []
  | h :: ps => (match h with
    | .str n => [n]
    | _ => []) ++ wordsTs ps
def wordsTs : List T → List (List Nat)
  | [] => []
  | t :: ts => wordsT t ++ wordsTs ts
end
def showT (t : T) : List Nat := joinC 32 (wordsT t)
theorem isKTs_all : ∀ ts : List T, isKTs ts = ts.all isKT
  | [] => rfl
  | t :: ts => by rw [List.all_cons, ← isKTs_all ts]; simp only [isKTs]
theorem wordsTs_flat : ∀ ts : List T, wordsTs ts = (ts.map wordsT).flatten
  | [] => rfl
  | t :: ts => by rw [List.map_cons, List.flatten_cons, ← wordsTs_flat ts]; simp only [wordsTs]
theorem isKT_words {t : T} (h : isKT t = true) : wordsT t ≠ [] := by
  cases t with
  | str x => simp [wordsT]
  | tup ts =>
    cases ts with
    | nil => simp [isKT, isKU] at h
    | cons a ps =>
      cases a with
      | str n => simp [wordsT, wordsU]
      | _ => simp [isKT, isKU] at h
  | _ => simp [isKT] at h
mutual
theorem kind_shape {ws : Wn} : ∀ {t : T}, kindT ws t = true → isKT t = true
  | .str _, _ => by simp [isKT]
  | .tup ts, h => by
    simp only [kindT] at h
    simp only [isKT]
    exact kind_shapeU h
  | .non, h => by simp [kindT] at h
  | .bl _, h => by simp [kindT] at h
  | .int _, h => by simp [kindT] at h
  | .frz _, h => by simp [kindT] at h
  | .obj _, h => by simp [kindT] at h
theorem kind_shapeU {ws : Wn} : ∀ {ts : List T}, kindU ws ts = true → isKU ts = true
  | [], h => by simp [kindU] at h
  | a :: ps, h => by
    cases a with
    | str n =>
      simp only [kindU] at h
      cases e : ws.lookup n with
      | none => rw [e] at h; cases h
      | some m =>
        rw [e] at h
        simp only [Bool.and_eq_true] at h
        simp only [isKU, Bool.true_and]
        exact kind_shapes h.2
    | _ => simp [kindU] at h
theorem kind_shapes {ws : Wn} : ∀ {ts : List T}, kindsT ws ts = true → isKTs ts = true
  | [], _ => rfl
  | t :: ts, h => by
    simp only [kindsT, Bool.and_eq_true] at h
    simp only [isKTs, Bool.and_eq_true]
    exact ⟨kind_shape h.1, kind_shapes h.2⟩
end
/-- signs of words, a blank each -/
def wsz (ws : List (List Nat)) : Nat := (ws.map fun w => w.length + 1).sum
theorem wsz_cons (w : List Nat) (ws : List (List Nat)) : wsz (w :: ws) = w.length + 1 + wsz ws := by simp [wsz]
theorem wsz_app (a b : List (List Nat)) : wsz (a ++ b) = wsz a + wsz b := by simp [wsz]
theorem joinC_len {c : Nat} : ∀ {ws : List (List Nat)}, ws ≠ [] → (joinC c ws).length + 1 = wsz ws
  | [], h => absurd rfl h
  | [w], _ => by simp [joinC, wsz]
  | w :: v :: r, _ => by
    have ih := joinC_len (c := c) (ws := v :: r) (List.cons_ne_nil _ _)
    rw [wsz_cons, ← ih]
    simp only [joinC, List.length_append, List.length_cons]
    omega
theorem joinC_app {c : Nat} : ∀ {a b : List (List Nat)}, a ≠ [] → b ≠ [] → joinC c (a ++ b) = joinC c a ++ c :: joinC c b
  | [], _, h, _ => absurd rfl h
  | [w], b, _, hb => by
    cases b with
    | nil => exact absurd rfl hb
    | cons x r => rfl
  | w :: v :: r, b, _, hb => by
    have ih := joinC_app (c := c) (a := v :: r) (b := b) (List.cons_ne_nil _ _) hb
    rw [List.cons_append] at ih
    show w ++ c :: joinC c (v :: (r ++ b)) = (w ++ c :: joinC c (v :: r)) ++ c :: joinC c b
    rw [ih]
    simp
theorem joinC_flat {c : Nat} : ∀ {ls : List (List (List Nat))}, (∀ l ∈ ls, l ≠ []) → joinC c (ls.map (joinC c)) = joinC c ls.flatten
  | [], _ => rfl
  | [l], _ => by simp [joinC]
  | l :: m :: r, h => by
    have ih := joinC_flat (c := c) (ls := m :: r) fun x hx => h x (List.mem_cons_of_mem _ hx)
    have hm := h m (List.mem_cons_of_mem _ List.mem_cons_self)
    rw [List.flatten_cons, joinC_app (h l List.mem_cons_self) (by rw [List.flatten_cons]; exact fun z => hm (List.append_eq_nil_iff.mp z).1), ← ih]
    rfl
theorem joinL_C {c : Nat} : ∀ zs : List (List Nat), joinL [c] zs = joinC c zs
  | [] => rfl
  | z :: zs => by
    have go : ∀ (zs : List (List Nat)) (x : List Nat), zs.foldl (fun acc p => acc ++ [c] ++ p) x = joinC c (x :: zs) := by
      intro zs
      induction zs with
      | nil => exact fun x => rfl
      | cons w ws ih =>
        intro x
        rw [List.foldl_cons, ih]
        cases ws with
        | nil => simp [joinC]
        | cons v r => simp [joinC]
    exact go zs z
theorem show_app {n : List Nat} {ps : List T} (h : isKTs ps = true) : joinL [32] (n :: ps.map showT) = showT (.tup (.str n :: ps)) := by
  rw [joinL_C]
  show joinC 32 (n :: ps.map showT) = joinC 32 (wordsU (.str n :: ps))
  have e : n :: ps.map showT = ([n] :: ps.map wordsT).map (joinC 32) := by
    rw [List.map_cons, List.map_map]
    rfl
  rw [e, joinC_flat]
  · simp [wordsU, wordsTs_flat]
  · intro l hl
    rcases List.mem_cons.mp hl with rfl | hl
    · simp
    · obtain ⟨p, hp, rfl⟩ := List.mem_map.mp hl
      rw [isKTs_all] at h
      exact isKT_words (List.all_eq_true.mp h p hp)
theorem wsz_part {ts : List T} {t : T} (h : t ∈ ts) : wsz (wordsT t) ≤ wsz (wordsTs ts) := by
  induction ts with
  | nil => cases h
  | cons u us ih =>
    simp only [wordsTs, wsz_app]
    rcases List.mem_cons.mp h with rfl | h
    · omega
    · have := ih h
      omega
theorem wsz_shows {ps : List T} (h : isKTs ps = true) : ((ps.map showT).map (·.length)).sum + ps.length = wsz (wordsTs ps) := by
  induction ps with
  | nil => rfl
  | cons p ps ih =>
    simp only [isKTs, Bool.and_eq_true] at h
    have h1 := joinC_len (c := 32) (isKT_words h.1)
    have h2 := ih h.2
    simp only [wordsTs, wsz_app, List.map_cons, List.sum_cons, List.length_cons] at h2 ⊢
    rw [← h1, ← h2]
    show (joinC 32 (wordsT p)).length + _ + _ = _
    omega
theorem gJoin_new {a : List Nat} {zs : List (List Nat)} {S : Sta} {Q : T → Sta → Prop} (h : (zs.map (·.length)).sum + zs.length * a.length ≤ 16777216) (q : Q (.str (joinL a zs)) (S ++ [.lst (zs.map .str)])) : gJoin (.str a) [.obj S.length] (S ++ [.lst (zs.map .str)]) Q :=
  ⟨a, _, zs.map .str, zs, rfl, rfl, by simp only [seqOf, get_new], strsOf_map zs, h, q⟩
/-- need: dep t + 1 -/
def co_show (k : Nat) : Co := Co.of 1 (A := T) (fun t => [t]) (fun t S => isKT t = true ∧ wsz (wordsT t) ≤ 2 ^ 20 ∧ dep t + 1 ≤ k) (fun t S r S' => Ex S S' ∧ r = .str (showT t))
theorem st_show {W : Wd} {k : Nat} (h20 : W.Γ 20 = co_show k) {t : T} {S : Sta} {Q : T → Sta → Prop} (hs : isKT t = true) (hz : wsz (wordsT t) ≤ 2 ^ 20) (hd : dep t ≤ k)
    (q : ∀ r S', Ex S S' ∧ r = .str (showT t) → Q r S') : denS W b_show_kind_0 (En0 Q) [some t, none] S := by
  simp only [b_show_kind_0, wLc2, wDc, wSk, shR, wZip, wsAug, wD2, denS, den, denA, denI, denO, denT, denG, denGs, wsSeq, wsN, wsIf, wsR, wsX, wsAsg, wsFld, wsBrk, wsCnt, wVar, wC, wTup, wLst, wDisp, wDict0, wOp, wChain, wAnd, wOr, wNot, wIf, wSl, wFld, wIsi, wCall, wBm, wApp, wMeth, wMethK, wNew, wNil, wCons, woN, woS, wgN, wgSub, wgTup, wgStar, wgNil, wgCons, wT, wYes, wLc, wIt, wRng1, wRng2, wsFor, wipeE, Bi.run, Bm.run, Bm.ty, List.getElem?_cons_zero, List.getElem?_cons_succ, List.set_cons_zero, List.set_cons_succ, Option.some.injEq, exists_eq_left', tru_bl, List.append_nil]
  cases t with
  | str x =>
    refine ⟨.str, rfl, ?_⟩
    simp [isiB]
    refine bin_str ?_ (q _ _ ⟨.rfl', rfl⟩)
    simp [wordsT, wsz] at hz
    have : (tx "?").length = 1 := rfl
    omega
  | tup ts =>
    refine ⟨.tuple, rfl, ?_⟩
    simp [isiB]
    cases ts with
    | nil => simp [isKT, isKU] at hs
    | cons a ps =>
      cases a with
      | str n =>
        simp only [isKT, isKU, Bool.true_and] at hs
        simp only [wordsT, wordsU, List.cons_append, List.nil_append, wsz_cons] at hz
        simp only [b_show_kind_1, wLc2, wDc, wSk, shR, wZip, wsAug, wD2, denS, den, denA, denI, denO, denT, denG, denGs, wsSeq, wsN, wsIf, wsR, wsX, wsAsg, wsFld, wsBrk, wsCnt, wVar, wC, wTup, wLst, wDisp, wDict0, wOp, wChain, wAnd, wOr, wNot, wIf, wSl, wFld, wIsi, wCall, wBm, wApp, wMeth, wMethK, wNew, wNil, wCons, woN, woS, wgN, wgSub, wgTup, wgStar, wgNil, wgCons, wT, wYes, wLc, wIt, wRng1, wRng2, wsFor, wipeE, Bi.run, Bm.run, Bm.ty, List.getElem?_cons_zero, List.getElem?_cons_succ, List.set_cons_zero, List.set_cons_succ, Option.some.injEq, exists_eq_left', tru_bl, List.append_nil]
        have hsum := wsz_shows hs
        refine ⟨rfl, ixG_tup atI_zero ⟨by simp [sizeLine_val], ?_⟩⟩
        have x1 : Ex S (S ++ [Cell.lst [T.str n]]) := .app
        have e1 : (S ++ [Cell.lst [T.str n]])[S.length]? = some (.lst [T.str n]) := get_new
        generalize S.length = l1 at e1 ⊢
        generalize S ++ [Cell.lst [T.str n]] = S1 at x1 e1 ⊢
        simp only [slG, cut_tail]
        refine iterW_tup (lcW_map (fun t => .str (showT t)) (fun S' => Ex S1 S') .rfl' (fun _ _ => trivial) (by rw [sizeLine_val]; omega) (fun y S' hy x => ?_) (fun S' x => ?_) (mono_den W _))
        · refine ⟨_, bd_nm _ _ _ _, ?_⟩
          simp only [x_show_kind_1_e0, wLc2, wDc, wSk, shR, wZip, wsAug, wD2, denS, den, denA, denI, denO, denT, denG, denGs, wsSeq, wsN, wsIf, wsR, wsX, wsAsg, wsFld, wsBrk, wsCnt, wVar, wC, wTup, wLst, wDisp, wDict0, wOp, wChain, wAnd, wOr, wNot, wIf, wSl, wFld, wIsi, wCall, wBm, wApp, wMeth, wMethK, wNew, wNil, wCons, woN, woS, wgN, wgSub, wgTup, wgStar, wgNil, wgCons, wT, wYes, wLc, wIt, wRng1, wRng2, wsFor, wipeE, Bi.run, Bm.run, Bm.ty, List.getElem?_cons_zero, List.getElem?_cons_succ, List.set_cons_zero, List.set_cons_succ, Option.some.injEq, exists_eq_left', tru_bl, List.append_nil, h20]
          have hd2 : dep y + 1 ≤ k := by
            have := dep_part (ts := .str n :: ps) (List.mem_cons_of_mem _ hy)
            omega
          have hk : isKT y = true := by
            rw [isKTs_all] at hs
            exact List.all_eq_true.mp hs y hy
          exact ⟨rfl, y, rfl, ⟨hk, by have := wsz_part hy; omega, hd2⟩, fun r S2 z => ⟨z.2, x.trans' z.1⟩⟩
        · refine bin_lst (get_app (x.get e1)) get_new (by simp; omega) ?_
          have e2 : [T.str n] ++ ps.map (fun t => T.str (showT t)) = (n :: ps.map showT).map T.str := by simp [List.map_map, Function.comp_def]
          rw [e2]
          refine gJoin_new ?_ (q _ _ ⟨((x1.trans' x).trans' .app).trans' .app, by rw [show tx " " = [32] from rfl, show_app hs]⟩)
          rw [show (tx " ").length = 1 from rfl, List.map_cons, List.sum_cons, List.length_cons, List.length_map]
          omega
      | _ => simp [isKT, isKU] at hs
  | _ => simp [isKT] at hs
end TR
set_option Elab.async false
set_option linter.all false
set_option maxRecDepth 100000
set_option maxHeartbeats 2000000
/-! TK13: alike trees; kinds read. -/
namespace TR
open PySem PySem.Spec L2
open PyProof.Rows hiding St

mutual
/-- texts, and tuples of such -/
def stT : T → Bool
  | .str _ => true
  | .tup ts => stTs ts
  | .non => false
  | .bl _ => false
  | .int _ => false
  | .frz _ => false
  | .obj _ => false
def stTs : List T → Bool
  | [] => true
  | t :: ts => stT t && stTs ts
end
theorem stTs_all : ∀ ts : List T, stTs ts = ts.all stT
  | [] => rfl
  | t :: ts => by rw [List.all_cons, ← stTs_all ts]; simp only [stTs]
mutual
theorem isKT_st : ∀ {t : T}, isKT t = true → stT t = true
  | .str _, _ => rfl
  | .tup ts, h => by
    simp only [isKT] at h
    simp only [stT]
    exact isKU_st h
  | .non, h => by simp [isKT] at h
  | .bl _, h => by simp [isKT] at h
  | .int _, h => by simp [isKT] at h
  | .frz _, h => by simp [isKT] at h
  | .obj _, h => by simp [isKT] at h
theorem isKU_st : ∀ {ts : List T}, isKU ts = true → stTs ts = true
  | [], h => rfl
  | a :: ps, h => by
    cases a with
    | str n =>
      simp only [isKU, Bool.true_and] at h
      simp only [stTs, stT, Bool.true_and]
      exact isKTs_st h
    | _ => simp [isKU] at h
theorem isKTs_st : ∀ {ts : List T}, isKTs ts = true → stTs ts = true
  | [], _ => rfl
  | t :: ts, h => by
    simp only [isKTs, Bool.and_eq_true] at h
    simp only [stTs, Bool.and_eq_true]
    exact ⟨isKT_st h.1, isKTs_st h.2⟩
end
/-- need: dep t + 1 -/
def co_same (k : Nat) : Co := Co.of 2 (A := T) (fun t => [t, t]) (fun t S => stT t = true ∧ wf [] t = true ∧ dep t + 1 ≤ k) (fun t S r S' => Ex S S' ∧ r = .bl true)
theorem zip_self (ts : List T) : zipT ts ts = ts.map fun t => .tup [t, t] := by
  unfold zipT
  induction ts with
  | nil => rfl
  | cons t ts ih => rw [List.zipWith_cons_cons, ih]; rfl
theorem st_same {W : Wd} {k : Nat} (h21 : W.Γ 21 = co_same k) {t : T} {S : Sta} {Q : T → Sta → Prop} (hs : stT t = true) (hw : wf [] t = true) (hd : dep t ≤ k) (q : ∀ r S', Ex S S' ∧ r = .bl true → Q r S') :
    denS W b_law_same_0 (En0 Q) [some t, some t, none, none] S := by
  simp only [b_law_same_0, wLc2, wDc, wSk, shR, wZip, wsAug, wD2, denS, den, denA, denI, denO, denT, denG, denGs, wsSeq, wsN, wsIf, wsR, wsX, wsAsg, wsFld, wsBrk, wsCnt, wVar, wC, wTup, wLst, wDisp, wDict0, wOp, wChain, wAnd, wOr, wNot, wIf, wSl, wFld, wIsi, wCall, wBm, wApp, wMeth, wMethK, wNew, wNil, wCons, woN, woS, wgN, wgSub, wgTup, wgStar, wgNil, wgCons, wT, wYes, wLc, wIt, wRng1, wRng2, wsFor, wipeE, Bi.run, Bm.run, Bm.ty, List.getElem?_cons_zero, List.getElem?_cons_succ, List.set_cons_zero, List.set_cons_succ, Option.some.injEq, exists_eq_left', tru_bl, List.append_nil]
  cases t with
  | str x =>
    refine ⟨.str, rfl, ?_⟩
    simp [isiB]
    simp only [b_law_same_1, wLc2, wDc, wSk, shR, wZip, wsAug, wD2, denS, den, denA, denI, denO, denT, denG, denGs, wsSeq, wsN, wsIf, wsR, wsX, wsAsg, wsFld, wsBrk, wsCnt, wVar, wC, wTup, wLst, wDisp, wDict0, wOp, wChain, wAnd, wOr, wNot, wIf, wSl, wFld, wIsi, wCall, wBm, wApp, wMeth, wMethK, wNew, wNil, wCons, woN, woS, wgN, wgSub, wgTup, wgStar, wgNil, wgCons, wT, wYes, wLc, wIt, wRng1, wRng2, wsFor, wipeE, Bi.run, Bm.run, Bm.ty, List.getElem?_cons_zero, List.getElem?_cons_succ, List.set_cons_zero, List.set_cons_succ, Option.some.injEq, exists_eq_left', tru_bl, List.append_nil]
    refine ⟨.str, rfl, ?_⟩
    simp [isiB]
    exact cg_eq_str (q _ _ ⟨.rfl', by simp⟩)
  | tup ts =>
    refine ⟨.tuple, rfl, ?_⟩
    simp [isiB]
    refine ⟨.tuple, rfl, ?_⟩
    rw [if_pos rfl]
    refine gLen_tup ?_
    refine gLen_tup ?_
    refine cg_eq_int ?_
    rw [decide_eq_true rfl]
    simp only [tru_bl, if_true]
    simp only [zipW, zip_self]
    refine lcW_map (fun _ => .bl true) (fun S' => Ex S S') .rfl' (fun _ _ => trivial) ?_ (fun y S' hy x => ?_) (fun S' x => ?_) (mono_den W _)
    · rw [List.length_map, sizeLine_val]
      exact (wf_tup.mp hw).1
    · obtain ⟨u, hu, rfl⟩ := List.mem_map.mp hy
      refine ⟨_, by simp [bindP, bindPs, seqOf]; rfl, ?_⟩
      simp only [x_law_same_0_e0, wLc2, wDc, wSk, shR, wZip, wsAug, wD2, denS, den, denA, denI, denO, denT, denG, denGs, wsSeq, wsN, wsIf, wsR, wsX, wsAsg, wsFld, wsBrk, wsCnt, wVar, wC, wTup, wLst, wDisp, wDict0, wOp, wChain, wAnd, wOr, wNot, wIf, wSl, wFld, wIsi, wCall, wBm, wApp, wMeth, wMethK, wNew, wNil, wCons, woN, woS, wgN, wgSub, wgTup, wgStar, wgNil, wgCons, wT, wYes, wLc, wIt, wRng1, wRng2, wsFor, wipeE, Bi.run, Bm.run, Bm.ty, List.getElem?_cons_zero, List.getElem?_cons_succ, List.set_cons_zero, List.set_cons_succ, Option.some.injEq, exists_eq_left', tru_bl, List.append_nil, h21]
      simp only [stT] at hs
      rw [stTs_all] at hs
      have hd2 : dep u + 1 ≤ k := by
        have := dep_part hu
        omega
      exact ⟨rfl, u, rfl, ⟨List.all_eq_true.mp hs u hu, wfs_mem (wf_tup.mp hw).2 hu, hd2⟩, fun r S2 z => ⟨z.2, x.trans' z.1⟩⟩
    · rw [List.map_map]
      refine gAll_new (boolsOf_map (fun _ => true) ts) (q _ _ ⟨x.trans' .app, ?_⟩)
      rw [map_all]
      simp
  | _ => simp [stT] at hs
/-! ### kinds read -/
theorem name_ne {n : List Nat} (h : nameOk n = true) : n.take 1 ≠ [63] := by
  unfold nameOk at h
  rw [Bool.and_eq_true, decide_eq_true_eq] at h
  cases n with
  | nil => simp
  | cons c r =>
    have hc := of_decide_eq_true (List.all_eq_true.mp h.2 c List.mem_cons_self)
    intro e
    rw [List.take_succ_cons, List.take_zero, List.cons.injEq] at e
    rw [e.1] at hc
    exact absurd hc (by decide +kernel)
abbrev AW := Nat × Nat × Wn × Nat × List (List Nat) × Nat × T × List (List Nat)
/-- need: dep t + 1 -/
def co_words (k : Nat) : Co := Co.of 3 (A := AW) (fun a => [.obj a.1, .obj a.2.2.2.1, .int (a.2.2.2.2.2.1 : Int)])
  (fun a S => BookAt S a.1 a.2.1 a.2.2.1 ∧ WnOk 9 a.2.2.1 ∧ S[a.2.2.2.1]? = some (.lst (a.2.2.2.2.1.map .str)) ∧ a.2.2.2.2.1.drop a.2.2.2.2.2.1 = wordsT a.2.2.2.2.2.2.1 ++ a.2.2.2.2.2.2.2 ∧ kindT a.2.2.1 a.2.2.2.2.2.2.1 = true ∧ dep a.2.2.2.2.2.2.1 + 1 ≤ k)
  (fun a S r S' => Ex S S' ∧ r = .tup [a.2.2.2.2.2.2.1, .int ((a.2.2.2.2.2.1 + (wordsT a.2.2.2.2.2.2.1).length : Nat) : Int)])
theorem cut_one {α : Type} (xs : List α) : cutL xs none (some 1) = xs.take 1 := by
  unfold cutL HT.sIx
  simp
theorem wordsTs_take {ts : List T} {i : Nat} {t : T} (e : ts[i]? = some t) : wordsTs (ts.take (i + 1)) = wordsTs (ts.take i) ++ wordsT t := by
  rw [wordsTs_flat, wordsTs_flat, List.take_add_one, e, List.map_append, List.flatten_append]
  simp
theorem st_words {W : Wd} {k : Nat} (hn : NoB W) (h16 : W.Γ 16 = co_is_name) (h22 : W.Γ 22 = co_words k) {b w : Nat} {ws : Wn} {wl : Nat} {L : List (List Nat)} {at_ : Nat} {t : T} {rest : List (List Nat)} {S : Sta} {Q : T → Sta → Prop} (hb : BookAt S b w ws) (hws : WnOk 9 ws)
    (hl : S[wl]? = some (.lst (L.map .str))) (hdr : L.drop at_ = wordsT t ++ rest) (hk : kindT ws t = true) (hd : dep t ≤ k)
    (q : ∀ r S', Ex S S' ∧ r = .tup [t, .int ((at_ + (wordsT t).length : Nat) : Int)] → Q r S') : denS W b_kind_words_0 (En0 Q) [some (.obj b), some (.obj wl), some (.int (at_ : Int)), none, none, none, none, none, none] S := by
  have nw : W.noat (tx "Book") (tx "wants") = true := hn _ (by decide +kernel)
  have hne := isKT_words (kind_shape hk)
  have hlt : at_ < L.length := by
    have := congrArg List.length hdr
    rw [List.length_drop, List.length_append] at this
    have h2 := List.length_pos_iff.mpr hne
    omega
  simp only [b_kind_words_0, wLc2, wDc, wSk, shR, wZip, wsAug, wD2, denS, den, denA, denI, denO, denT, denG, denGs, wsSeq, wsN, wsIf, wsR, wsX, wsAsg, wsFld, wsBrk, wsCnt, wVar, wC, wTup, wLst, wDisp, wDict0, wOp, wChain, wAnd, wOr, wNot, wIf, wSl, wFld, wIsi, wCall, wBm, wApp, wMeth, wMethK, wNew, wNil, wCons, woN, woS, wgN, wgSub, wgTup, wgStar, wgNil, wgCons, wT, wYes, wLc, wIt, wRng1, wRng2, wsFor, wipeE, Bi.run, Bm.run, Bm.ty, List.getElem?_cons_zero, List.getElem?_cons_succ, List.set_cons_zero, List.set_cons_succ, Option.some.injEq, exists_eq_left', tru_bl, List.append_nil]
  refine gLen_lst hl (cg_ge ?_)
  rw [List.length_map]
  have e0 : decide ((L.length : Int) ≤ (at_ : Int)) = false := decide_eq_false (by omega)
  simp only [e0, tru_bl, Bool.false_eq_true, if_false]
  simp only [b_kind_words_1, wLc2, wDc, wSk, shR, wZip, wsAug, wD2, denS, den, denA, denI, denO, denT, denG, denGs, wsSeq, wsN, wsIf, wsR, wsX, wsAsg, wsFld, wsBrk, wsCnt, wVar, wC, wTup, wLst, wDisp, wDict0, wOp, wChain, wAnd, wOr, wNot, wIf, wSl, wFld, wIsi, wCall, wBm, wApp, wMeth, wMethK, wNew, wNil, wCons, woN, woS, wgN, wgSub, wgTup, wgStar, wgNil, wgCons, wT, wYes, wLc, wIt, wRng1, wRng2, wsFor, wipeE, Bi.run, Bm.run, Bm.ty, List.getElem?_cons_zero, List.getElem?_cons_succ, List.set_cons_zero, List.set_cons_succ, Option.some.injEq, exists_eq_left', tru_bl, List.append_nil]
  have hget : ∀ v vs, wordsT t = v :: vs → atI (L.map T.str) (at_ : Int) = some (.str v) := fun v vs e => by
    refine atI_nat ?_
    rw [List.getElem?_map]
    have : L[at_]? = some v := by
      have h2 := congrArg (fun l => l[0]?) hdr
      simp only [List.getElem?_drop, Nat.add_zero, e] at h2
      rw [h2]
      rfl
    rw [this]
    rfl
  cases t with
  | str x =>
    refine ixG_lst hl (hget (63 :: x) [] (by simp only [wordsT])) ?_
    simp only [kindT] at hk
    have hx8 := nameOk_len hk
    simp only [b_kind_words_2, wLc2, wDc, wSk, shR, wZip, wsAug, wD2, denS, den, denA, denI, denO, denT, denG, denGs, wsSeq, wsN, wsIf, wsR, wsX, wsAsg, wsFld, wsBrk, wsCnt, wVar, wC, wTup, wLst, wDisp, wDict0, wOp, wChain, wAnd, wOr, wNot, wIf, wSl, wFld, wIsi, wCall, wBm, wApp, wMeth, wMethK, wNew, wNil, wCons, woN, woS, wgN, wgSub, wgTup, wgStar, wgNil, wgCons, wT, wYes, wLc, wIt, wRng1, wRng2, wsFor, wipeE, Bi.run, Bm.run, Bm.ty, List.getElem?_cons_zero, List.getElem?_cons_succ, List.set_cons_zero, List.set_cons_succ, Option.some.injEq, exists_eq_left', tru_bl, List.append_nil, slG, cut_one]
    refine ⟨by rw [List.length_cons, sizeLine_val]; omega, cg_eq_str ?_⟩
    have e1 : decide (List.take 1 (63 :: x) = tx "?") = true := decide_eq_true rfl
    simp only [e1, tru_bl, if_true, h16, cut_tail]
    refine ⟨by rw [List.length_cons, sizeLine_val]; omega, rfl, .str x, rfl, wf_name hk, fun r S1 z => ?_⟩
    obtain ⟨x1, rfl⟩ := z
    simp only [nameT, hk, tru_bl, if_true]
    refine ⟨by rw [List.length_cons, sizeLine_val]; omega, bin_add ⟨by simp [sizeLine_val], q _ _ ⟨x1, ?_⟩⟩⟩
    simp [wordsT]
  | tup ts =>
    cases ts with
    | nil => simp [kindT, kindU] at hk
    | cons a ps =>
      cases a with
      | str n =>
        have hk0 := hk
        simp only [kindT, kindU] at hk
        cases hlk : ws.lookup n with
        | none => rw [hlk] at hk; cases hk
        | some m =>
          rw [hlk] at hk
          simp only [Bool.and_eq_true, decide_eq_true_eq] at hk
          obtain ⟨hm, hps⟩ := hk
          have hmem : n ∈ ws.map (·.1) := by
            by_cases z : n ∈ ws.map (·.1)
            · exact z
            · rw [lookup_keys rfl z] at hlk
              cases hlk
          have hn8 : nameOk n = true := by
            obtain ⟨_, _, _, _, h⟩ := wn_lookup hws hmem
            exact h
          have hn8' := nameOk_len hn8
          obtain ⟨⟨fs, hbk, hfl, hF⟩, hwn⟩ := id hb
          refine ixG_lst hl (hget n (wordsTs ps) (by simp [wordsT, wordsU])) ?_
          simp only [b_kind_words_2, wLc2, wDc, wSk, shR, wZip, wsAug, wD2, denS, den, denA, denI, denO, denT, denG, denGs, wsSeq, wsN, wsIf, wsR, wsX, wsAsg, wsFld, wsBrk, wsCnt, wVar, wC, wTup, wLst, wDisp, wDict0, wOp, wChain, wAnd, wOr, wNot, wIf, wSl, wFld, wIsi, wCall, wBm, wApp, wMeth, wMethK, wNew, wNil, wCons, woN, woS, wgN, wgSub, wgTup, wgStar, wgNil, wgCons, wT, wYes, wLc, wIt, wRng1, wRng2, wsFor, wipeE, Bi.run, Bm.run, Bm.ty, List.getElem?_cons_zero, List.getElem?_cons_succ, List.set_cons_zero, List.set_cons_succ, Option.some.injEq, exists_eq_left', tru_bl, List.append_nil, slG, cut_one]
          refine ⟨by rw [sizeLine_val]; omega, cg_eq_str ?_⟩
          have e1 : decide (List.take 1 n = tx "?") = false := decide_eq_false (name_ne hn8)
          simp only [e1, tru_bl, Bool.false_eq_true, if_false]
          simp only [b_kind_words_3, wLc2, wDc, wSk, shR, wZip, wsAug, wD2, denS, den, denA, denI, denO, denT, denG, denGs, wsSeq, wsN, wsIf, wsR, wsX, wsAsg, wsFld, wsBrk, wsCnt, wVar, wC, wTup, wLst, wDisp, wDict0, wOp, wChain, wAnd, wOr, wNot, wIf, wSl, wFld, wIsi, wCall, wBm, wApp, wMeth, wMethK, wNew, wNil, wCons, woN, woS, wgN, wgSub, wgTup, wgStar, wgNil, wgCons, wT, wYes, wLc, wIt, wRng1, wRng2, wsFor, wipeE, Bi.run, Bm.run, Bm.ty, List.getElem?_cons_zero, List.getElem?_cons_succ, List.set_cons_zero, List.set_cons_succ, Option.some.injEq, exists_eq_left', tru_bl, List.append_nil, hbk]
          refine ⟨nw, _, hfl, cg_notin_dct hwn rfl ?_⟩
          rw [dget_kvs, hlk]
          simp only [Option.map_some, Option.isSome_some, Bool.not_true, tru_bl, Bool.false_eq_true, if_false]
          simp only [b_kind_words_4, wLc2, wDc, wSk, shR, wZip, wsAug, wD2, denS, den, denA, denI, denO, denT, denG, denGs, wsSeq, wsN, wsIf, wsR, wsX, wsAsg, wsFld, wsBrk, wsCnt, wVar, wC, wTup, wLst, wDisp, wDict0, wOp, wChain, wAnd, wOr, wNot, wIf, wSl, wFld, wIsi, wCall, wBm, wApp, wMeth, wMethK, wNew, wNil, wCons, woN, woS, wgN, wgSub, wgTup, wgStar, wgNil, wgCons, wT, wYes, wLc, wIt, wRng1, wRng2, wsFor, wipeE, Bi.run, Bm.run, Bm.ty, List.getElem?_cons_zero, List.getElem?_cons_succ, List.set_cons_zero, List.set_cons_succ, Option.some.injEq, exists_eq_left', tru_bl, List.append_nil]
          refine ⟨by simp [sizeLine_val], bin_add ⟨by simp [sizeLine_val], rfl, trivial, ?_⟩⟩
          simp only [b_kind_words_5, wLc2, wDc, wSk, shR, wZip, wsAug, wD2, denS, den, denA, denI, denO, denT, denG, denGs, wsSeq, wsN, wsIf, wsR, wsX, wsAsg, wsFld, wsBrk, wsCnt, wVar, wC, wTup, wLst, wDisp, wDict0, wOp, wChain, wAnd, wOr, wNot, wIf, wSl, wFld, wIsi, wCall, wBm, wApp, wMeth, wMethK, wNew, wNil, wCons, woN, woS, wgN, wgSub, wgTup, wgStar, wgNil, wgCons, wT, wYes, wLc, wIt, wRng1, wRng2, wsFor, wipeE, Bi.run, Bm.run, Bm.ty, List.getElem?_cons_zero, List.getElem?_cons_succ, List.set_cons_zero, List.set_cons_succ, Option.some.injEq, exists_eq_left', tru_bl, List.append_nil, hbk]
          refine ⟨nw, _, hfl, ixG_dct hwn rfl (by rw [dget_kvs, hlk]; rfl) ?_⟩
          obtain ⟨_, hm2, m0, m3, _⟩ := wn_lookup hws hmem
          rw [hlk] at hm2
          cases hm2
          have hpl : (rngT 0 m.toNat).length = ps.length := by rw [rng_len]; omega
          have hdr1 : L.drop (at_ + 1) = wordsTs ps ++ rest := by
            have h := congrArg (List.drop 1) hdr
            rw [List.drop_drop] at h
            rw [h]
            simp [wordsT, wordsU]
          refine ⟨by omega, by omega, forW_by (fun i ρ S' => Ex S S' ∧ ∃ o4 o7 o8, ρ = [some (.obj b), some (.obj wl), some (.int (at_ : Int)), some (.str n), o4, some (.tup (.str n :: ps.take i)), some (.int ((at_ + 1 + (wordsTs (ps.take i)).length : Nat) : Int)), o7, o8])
            ⟨.rfl', none, none, none, by simp [wordsTs]⟩ (fun _ _ _ _ => trivial) (fun i x ρ S' e z => ?_) (fun ρ S' z => ?_) (mono_denS W _)⟩
          · obtain ⟨x1, o4, o7, o8, rfl⟩ := z
            obtain ⟨rfl, hi⟩ := rng_mem e
            have hi : i < ps.length := by omega
            have ei : ps[i]? = some ps[i] := List.getElem?_eq_getElem hi
            generalize ps[i] = p at ei
            have hpm : p ∈ ps := List.mem_of_getElem? ei
            refine ⟨_, bd_nm _ _ _ _, ?_⟩
            simp only [b_kind_words_5l_0, wLc2, wDc, wSk, shR, wZip, wsAug, wD2, denS, den, denA, denI, denO, denT, denG, denGs, wsSeq, wsN, wsIf, wsR, wsX, wsAsg, wsFld, wsBrk, wsCnt, wVar, wC, wTup, wLst, wDisp, wDict0, wOp, wChain, wAnd, wOr, wNot, wIf, wSl, wFld, wIsi, wCall, wBm, wApp, wMeth, wMethK, wNew, wNil, wCons, woN, woS, wgN, wgSub, wgTup, wgStar, wgNil, wgCons, wT, wYes, wLc, wIt, wRng1, wRng2, wsFor, wipeE, Bi.run, Bm.run, Bm.ty, List.getElem?_cons_zero, List.getElem?_cons_succ, List.set_cons_zero, List.set_cons_succ, Option.some.injEq, exists_eq_left', tru_bl, List.append_nil, h22]
            have hsp : wordsTs ps = wordsTs (ps.take i) ++ (wordsT p ++ wordsTs (ps.drop (i + 1))) := by
              have : ps = ps.take i ++ p :: ps.drop (i + 1) := by
                rw [show p :: ps.drop (i + 1) = ps.drop i from (by rw [List.drop_eq_getElem_cons hi]; congr 1; rw [List.getElem?_eq_getElem hi] at ei; exact (Option.some.inj ei).symm), List.take_append_drop]
              have h2 := congrArg wordsTs this
              rw [h2, wordsTs_flat, List.map_append, List.flatten_append, ← wordsTs_flat, List.map_cons, List.flatten_cons, ← wordsTs_flat]
            have hdr2 : L.drop (at_ + 1 + (wordsTs (ps.take i)).length) = wordsT p ++ (wordsTs (ps.drop (i + 1)) ++ rest) := by
              rw [← List.drop_drop, hdr1, hsp, List.append_assoc, List.drop_left, List.append_assoc]
            have hkp : kindT ws p = true := by
              rw [kindsT_all] at hps
              exact List.all_eq_true.mp hps p hpm
            have hd2 : dep p + 1 ≤ k := by
              have := dep_part (ts := .str n :: ps) (List.mem_cons_of_mem _ hpm)
              omega
            refine ⟨rfl, (b, w, ws, wl, L, at_ + 1 + (wordsTs (ps.take i)).length, p, _), rfl, ⟨hb.ex x1, hws, x1.get hl, hdr2, hkp, hd2⟩, fun r S2 z => ?_⟩
            obtain ⟨x2, rfl⟩ := z
            simp only [b_kind_words_5l_1, wLc2, wDc, wSk, shR, wZip, wsAug, wD2, denS, den, denA, denI, denO, denT, denG, denGs, wsSeq, wsN, wsIf, wsR, wsX, wsAsg, wsFld, wsBrk, wsCnt, wVar, wC, wTup, wLst, wDisp, wDict0, wOp, wChain, wAnd, wOr, wNot, wIf, wSl, wFld, wIsi, wCall, wBm, wApp, wMeth, wMethK, wNew, wNil, wCons, woN, woS, wgN, wgSub, wgTup, wgStar, wgNil, wgCons, wT, wYes, wLc, wIt, wRng1, wRng2, wsFor, wipeE, Bi.run, Bm.run, Bm.ty, List.getElem?_cons_zero, List.getElem?_cons_succ, List.set_cons_zero, List.set_cons_succ, Option.some.injEq, exists_eq_left', tru_bl, List.append_nil, cmpG, cmpW, isNon]
            simp only [Bool.false_eq_true, if_false, true_and, b_kind_words_5l_2, wLc2, wDc, wSk, shR, wZip, wsAug, wD2, denS, den, denA, denI, denO, denT, denG, denGs, wsSeq, wsN, wsIf, wsR, wsX, wsAsg, wsFld, wsBrk, wsCnt, wVar, wC, wTup, wLst, wDisp, wDict0, wOp, wChain, wAnd, wOr, wNot, wIf, wSl, wFld, wIsi, wCall, wBm, wApp, wMeth, wMethK, wNew, wNil, wCons, woN, woS, wgN, wgSub, wgTup, wgStar, wgNil, wgCons, wT, wYes, wLc, wIt, wRng1, wRng2, wsFor, wipeE, Bi.run, Bm.run, Bm.ty, List.getElem?_cons_zero, List.getElem?_cons_succ, List.set_cons_zero, List.set_cons_succ, Option.some.injEq, exists_eq_left', tru_bl, List.append_nil]
            refine ⟨rfl, ?_⟩
            simp only [b_kind_words_5l_3, wLc2, wDc, wSk, shR, wZip, wsAug, wD2, denS, den, denA, denI, denO, denT, denG, denGs, wsSeq, wsN, wsIf, wsR, wsX, wsAsg, wsFld, wsBrk, wsCnt, wVar, wC, wTup, wLst, wDisp, wDict0, wOp, wChain, wAnd, wOr, wNot, wIf, wSl, wFld, wIsi, wCall, wBm, wApp, wMeth, wMethK, wNew, wNil, wCons, woN, woS, wgN, wgSub, wgTup, wgStar, wgNil, wgCons, wT, wYes, wLc, wIt, wRng1, wRng2, wsFor, wipeE, Bi.run, Bm.run, Bm.ty, List.getElem?_cons_zero, List.getElem?_cons_succ, List.set_cons_zero, List.set_cons_succ, Option.some.injEq, exists_eq_left', tru_bl, List.append_nil, augW]
            refine ⟨by simp [sizeLine_val], ?_, x1.trans' x2, some (.int (0 + (i : Int))), some (.tup [p, .int ((at_ + 1 + (wordsTs (ps.take i)).length + (wordsT p).length : Nat) : Int)]), some p, ?_⟩
            · have h4 : ps.length ≤ 3 := by omega
              rw [List.length_cons, List.length_take, List.length_singleton, sizeLine_val]
              omega
            · rw [wordsTs_take ei, List.take_add_one, ei, List.length_append, Nat.add_assoc (at_ + 1)]
              rfl
          · obtain ⟨x1, o4, o7, o8, rfl⟩ := z
            simp only [b_kind_words_6, wLc2, wDc, wSk, shR, wZip, wsAug, wD2, denS, den, denA, denI, denO, denT, denG, denGs, wsSeq, wsN, wsIf, wsR, wsX, wsAsg, wsFld, wsBrk, wsCnt, wVar, wC, wTup, wLst, wDisp, wDict0, wOp, wChain, wAnd, wOr, wNot, wIf, wSl, wFld, wIsi, wCall, wBm, wApp, wMeth, wMethK, wNew, wNil, wCons, woN, woS, wgN, wgSub, wgTup, wgStar, wgNil, wgCons, wT, wYes, wLc, wIt, wRng1, wRng2, wsFor, wipeE, Bi.run, Bm.run, Bm.ty, List.getElem?_cons_zero, List.getElem?_cons_succ, List.set_cons_zero, List.set_cons_succ, Option.some.injEq, exists_eq_left', tru_bl, List.append_nil]
            rw [hpl, List.take_length]
            refine ⟨by simp [sizeLine_val], q _ _ ⟨x1, ?_⟩⟩
            simp only [wordsT, wordsU, List.cons_append, List.nil_append, List.length_cons]
            congr 4
            omega
      | _ => simp [kindT, kindU] at hk
  | _ => simp [kindT] at hk
theorem words_free {ws : Wn} {n : Nat} (hws : WnOk n ws) : ∀ {t : T}, kindT ws t = true → ∀ x ∈ wordsT t, 32 ∉ x := by
  have nm : ∀ {x : List Nat}, nameOk x = true → 32 ∉ x := fun {x} h z => by
    unfold nameOk at h
    rw [Bool.and_eq_true] at h
    have hc := of_decide_eq_true (List.all_eq_true.mp h.2 32 z)
    exact absurd hc (by decide +kernel)
  have key : ∀ {m : List Nat} {v : Int}, ws.lookup m = some v → nameOk m = true := fun {m v} e => by
    have : m ∈ ws.map (·.1) := by
      by_cases z : m ∈ ws.map (·.1)
      · exact z
      · rw [lookup_keys rfl z] at e
        cases e
    obtain ⟨_, _, _, _, h⟩ := wn_lookup hws this
    exact h
  have go : ∀ (d : Nat) (t : T), dep t ≤ d → kindT ws t = true → ∀ x ∈ wordsT t, 32 ∉ x := by
    intro d
    induction d with
    | zero =>
      intro t hd h x hx
      cases t with
      | str y =>
        simp only [wordsT, List.mem_singleton] at hx
        simp only [kindT] at h
        subst hx
        rw [List.mem_cons, not_or]
        exact ⟨by decide, nm h⟩
      | tup ts => exact absurd hd (by simp only [dep]; omega)
      | _ => simp [kindT] at h
    | succ d ih =>
      intro t hd h x hx
      cases t with
      | str y =>
        simp only [wordsT, List.mem_singleton] at hx
        simp only [kindT] at h
        subst hx
        rw [List.mem_cons, not_or]
        exact ⟨by decide, nm h⟩
      | tup ts =>
        cases ts with
        | nil => simp [kindT, kindU] at h
        | cons a ps =>
          cases a with
          | str y =>
            simp only [kindT, kindU] at h
            cases e : ws.lookup y with
            | none => rw [e] at h; cases h
            | some m =>
              rw [e] at h
              simp only [Bool.and_eq_true] at h
              simp only [wordsT, wordsU, List.cons_append, List.nil_append, List.mem_cons] at hx
              rcases hx with rfl | hx
              · exact nm (key e)
              · rw [wordsTs_flat, List.mem_flatten] at hx
                obtain ⟨l, hl, hx⟩ := hx
                obtain ⟨p, hp, rfl⟩ := List.mem_map.mp hl
                have h2 := h.2
                rw [kindsT_all] at h2
                refine ih p ?_ (List.all_eq_true.mp h2 p hp) x hx
                have := dep_part (ts := .str y :: ps) (List.mem_cons_of_mem _ hp)
                omega
          | _ => simp [kindT, kindU] at h
      | _ => simp [kindT] at h
  exact fun {t} h => go (dep t) t (Nat.le_refl _) h
theorem split_show {ws : Wn} {n : Nat} {t : T} (hws : WnOk n ws) (h : kindT ws t = true) : splitC 32 (showT t) = wordsT t := splitC_join (isKT_words (kind_shape h)) (words_free hws h)
/-- need: dep t + 3 -/
def co_read (k : Nat) : Co := Co.of 2 (A := Nat × Nat × Wn × T) (fun a => [.obj a.1, .str (showT a.2.2.2)])
  (fun a S => BookAt S a.1 a.2.1 a.2.2.1 ∧ WnOk 9 a.2.2.1 ∧ kindT a.2.2.1 a.2.2.2 = true ∧ wsz (wordsT a.2.2.2) ≤ 2 ^ 20 ∧ dep a.2.2.2 + 2 ≤ k) (fun a S r S' => Ex S S' ∧ r = a.2.2.2)
theorem st_read {W : Wd} {k : Nat} (h22 : W.Γ 22 = co_words k) {b w : Nat} {ws : Wn} {t : T} {S : Sta} {Q : T → Sta → Prop} (hb : BookAt S b w ws) (hws : WnOk 9 ws) (hk : kindT ws t = true) (hz : wsz (wordsT t) ≤ 2 ^ 20) (hd : dep t + 1 ≤ k)
    (q : ∀ r S', Ex S S' ∧ r = t → Q r S') : denS W b_read_kind_0 (En0 Q) [some (.obj b), some (.str (showT t)), none, none] S := by
  simp only [b_read_kind_0, wLc2, wDc, wSk, shR, wZip, wsAug, wD2, denS, den, denA, denI, denO, denT, denG, denGs, wsSeq, wsN, wsIf, wsR, wsX, wsAsg, wsFld, wsBrk, wsCnt, wVar, wC, wTup, wLst, wDisp, wDict0, wOp, wChain, wAnd, wOr, wNot, wIf, wSl, wFld, wIsi, wCall, wBm, wApp, wMeth, wMethK, wNew, wNil, wCons, woN, woS, wgN, wgSub, wgTup, wgStar, wgNil, wgCons, wT, wYes, wLc, wIt, wRng1, wRng2, wsFor, wipeE, Bi.run, Bm.run, Bm.ty, List.getElem?_cons_zero, List.getElem?_cons_succ, List.set_cons_zero, List.set_cons_succ, Option.some.injEq, exists_eq_left', tru_bl, List.append_nil]
  refine ⟨.str, rfl, ?_⟩
  simp [isiB]
  simp only [b_read_kind_1, wLc2, wDc, wSk, shR, wZip, wsAug, wD2, denS, den, denA, denI, denO, denT, denG, denGs, wsSeq, wsN, wsIf, wsR, wsX, wsAsg, wsFld, wsBrk, wsCnt, wVar, wC, wTup, wLst, wDisp, wDict0, wOp, wChain, wAnd, wOr, wNot, wIf, wSl, wFld, wIsi, wCall, wBm, wApp, wMeth, wMethK, wNew, wNil, wCons, woN, woS, wgN, wgSub, wgTup, wgStar, wgNil, wgCons, wT, wYes, wLc, wIt, wRng1, wRng2, wsFor, wipeE, Bi.run, Bm.run, Bm.ty, List.getElem?_cons_zero, List.getElem?_cons_succ, List.set_cons_zero, List.set_cons_succ, Option.some.injEq, exists_eq_left', tru_bl, List.append_nil]
  have hl := joinC_len (c := 32) (isKT_words (kind_shape hk))
  have hl2 : (showT t).length + 1 = wsz (wordsT t) := hl
  refine ⟨rfl, showT t, 32, rfl, rfl, by omega, ?_⟩
  rw [split_show hws hk]
  have x1 : Ex S (S ++ [Cell.lst ((wordsT t).map T.str)]) := .app
  have e1 : (S ++ [Cell.lst ((wordsT t).map T.str)])[S.length]? = some (.lst ((wordsT t).map T.str)) := get_new
  generalize S.length = wl at e1 ⊢
  generalize S ++ [Cell.lst ((wordsT t).map T.str)] = S1 at x1 e1 ⊢
  simp only [b_read_kind_2, wLc2, wDc, wSk, shR, wZip, wsAug, wD2, denS, den, denA, denI, denO, denT, denG, denGs, wsSeq, wsN, wsIf, wsR, wsX, wsAsg, wsFld, wsBrk, wsCnt, wVar, wC, wTup, wLst, wDisp, wDict0, wOp, wChain, wAnd, wOr, wNot, wIf, wSl, wFld, wIsi, wCall, wBm, wApp, wMeth, wMethK, wNew, wNil, wCons, woN, woS, wgN, wgSub, wgTup, wgStar, wgNil, wgCons, wT, wYes, wLc, wIt, wRng1, wRng2, wsFor, wipeE, Bi.run, Bm.run, Bm.ty, List.getElem?_cons_zero, List.getElem?_cons_succ, List.set_cons_zero, List.set_cons_succ, Option.some.injEq, exists_eq_left', tru_bl, List.append_nil, h22]
  refine ⟨rfl, (b, w, ws, wl, wordsT t, 0, t, []), rfl, ⟨hb.ex x1, hws, e1, (by simp), hk, hd⟩, fun r S2 z => ?_⟩
  obtain ⟨x2, rfl⟩ := z
  simp only [b_read_kind_3, wLc2, wDc, wSk, shR, wZip, wsAug, wD2, denS, den, denA, denI, denO, denT, denG, denGs, wsSeq, wsN, wsIf, wsR, wsX, wsAsg, wsFld, wsBrk, wsCnt, wVar, wC, wTup, wLst, wDisp, wDict0, wOp, wChain, wAnd, wOr, wNot, wIf, wSl, wFld, wIsi, wCall, wBm, wApp, wMeth, wMethK, wNew, wNil, wCons, woN, woS, wgN, wgSub, wgTup, wgStar, wgNil, wgCons, wT, wYes, wLc, wIt, wRng1, wRng2, wsFor, wipeE, Bi.run, Bm.run, Bm.ty, List.getElem?_cons_zero, List.getElem?_cons_succ, List.set_cons_zero, List.set_cons_succ, Option.some.injEq, exists_eq_left', tru_bl, List.append_nil, cmpG, cmpW, isNon]
  simp only [Bool.false_eq_true, if_false, true_and]
  refine ixG_tup (atI_nat (n := 1) rfl) (gLen_lst (x2.get e1) ?_)
  simp only [List.length_map]
  simp
  simp only [b_read_kind_4, wLc2, wDc, wSk, shR, wZip, wsAug, wD2, denS, den, denA, denI, denO, denT, denG, denGs, wsSeq, wsN, wsIf, wsR, wsX, wsAsg, wsFld, wsBrk, wsCnt, wVar, wC, wTup, wLst, wDisp, wDict0, wOp, wChain, wAnd, wOr, wNot, wIf, wSl, wFld, wIsi, wCall, wBm, wApp, wMeth, wMethK, wNew, wNil, wCons, woN, woS, wgN, wgSub, wgTup, wgStar, wgNil, wgCons, wT, wYes, wLc, wIt, wRng1, wRng2, wsFor, wipeE, Bi.run, Bm.run, Bm.ty, List.getElem?_cons_zero, List.getElem?_cons_succ, List.set_cons_zero, List.set_cons_succ, Option.some.injEq, exists_eq_left', tru_bl, List.append_nil]
  exact ixG_tup atI_zero (q _ _ ⟨x1.trans' x2, rfl⟩)
end TR
set_option Elab.async false
set_option linter.all false
set_option maxRecDepth 100000
set_option maxHeartbeats 2000000
/-! TK14: what kinds' texts tell. -/
namespace TR
open PySem PySem.Spec L2
open PyProof.Rows hiding St

theorem kind_cases {ws : Wn} {t : T} (h : kindT ws t = true) : (∃ x, t = .str x ∧ nameOk x = true) ∨ ∃ n m ps, t = .tup (.str n :: ps) ∧ ws.lookup n = some m ∧ (ps.length : Int) = m ∧ ∀ p ∈ ps, kindT ws p = true := by
  cases t with
  | str x => exact .inl ⟨x, rfl, by simpa only [kindT] using h⟩
  | tup ts =>
    cases ts with
    | nil => simp [kindT, kindU] at h
    | cons a ps =>
      cases a with
      | str n =>
        simp only [kindT, kindU] at h
        cases e : ws.lookup n with
        | none => rw [e] at h; cases h
        | some m =>
          rw [e] at h
          simp only [Bool.and_eq_true, decide_eq_true_eq] at h
          refine .inr ⟨n, m, ps, rfl, e, h.1, fun p hp => ?_⟩
          have h2 := h.2
          rw [kindsT_all] at h2
          exact List.all_eq_true.mp h2 p hp
      | _ => simp [kindT, kindU] at h
  | _ => simp [kindT] at h
theorem wn_name {n : Nat} {ws : Wn} (h : WnOk n ws) {m : List Nat} {v : Int} (e : ws.lookup m = some v) : nameOk m = true ∧ 0 ≤ v ∧ v ≤ 3 := by
  have : m ∈ ws.map (·.1) := by
    by_cases z : m ∈ ws.map (·.1)
    · exact z
    · rw [lookup_keys rfl z] at e
      cases e
  obtain ⟨u, h1, h2, h3, h4⟩ := wn_lookup h this
  rw [e] at h1
  cases h1
  exact ⟨h4, h2, h3⟩
/-- a kind, by its depth -/
theorem kind_ind {ws : Wn} {P : T → Prop} (h1 : ∀ x, nameOk x = true → P (.str x)) (h2 : ∀ n m ps, ws.lookup n = some m → (ps.length : Int) = m → (∀ p ∈ ps, kindT ws p = true) → (∀ p ∈ ps, P p) → P (.tup (.str n :: ps))) : ∀ {t : T}, kindT ws t = true → P t := by
  have go : ∀ (d : Nat) (t : T), dep t ≤ d → kindT ws t = true → P t := by
    intro d
    induction d with
    | zero =>
      intro t hd h
      rcases kind_cases h with ⟨x, rfl, hx⟩ | ⟨n, m, ps, rfl, _⟩
      · exact h1 x hx
      · exact absurd hd (by simp only [dep]; omega)
    | succ d ih =>
      intro t hd h
      rcases kind_cases h with ⟨x, rfl, hx⟩ | ⟨n, m, ps, rfl, e, hl, hp⟩
      · exact h1 x hx
      · refine h2 n m ps e hl hp fun p hm => ih p ?_ (hp p hm)
        have := dep_part (ts := .str n :: ps) (List.mem_cons_of_mem _ hm)
        omega
  exact fun {t} h => go (dep t) t (Nat.le_refl _) h
theorem words_inj {n : Nat} {ws : Wn} (hws : WnOk n ws) : ∀ {t : T}, kindT ws t = true → ∀ {u : T} {r s : List (List Nat)}, kindT ws u = true → wordsT t ++ r = wordsT u ++ s → t = u ∧ r = s := by
  intro t ht
  refine kind_ind (P := fun t => ∀ {u : T} {r s : List (List Nat)}, kindT ws u = true → wordsT t ++ r = wordsT u ++ s → t = u ∧ r = s) (fun x hx => ?_) (fun m v ps e hl hp ih => ?_) ht
  · intro u r s hu he
    rcases kind_cases hu with ⟨y, rfl, hy⟩ | ⟨m, v, qs, rfl, e, _⟩
    · simp only [wordsT, List.singleton_append, List.cons.injEq] at he
      exact ⟨by rw [he.1.2], he.2⟩
    · simp only [wordsT, wordsU, List.singleton_append, List.cons_append, List.nil_append, List.cons.injEq] at he
      have := name_ne (wn_name hws e).1
      rw [← he.1] at this
      exact absurd rfl this
  · intro u r s hu he
    rcases kind_cases hu with ⟨y, rfl, hy⟩ | ⟨m', v', qs, rfl, e', hl', hq⟩
    · simp only [wordsT, wordsU, List.singleton_append, List.cons_append, List.nil_append, List.cons.injEq] at he
      have := name_ne (wn_name hws e).1
      rw [he.1] at this
      exact absurd rfl this
    · simp only [wordsT, wordsU, List.singleton_append, List.cons_append, List.nil_append, List.cons.injEq] at he
      obtain ⟨rfl, he⟩ := he
      rw [e] at e'
      cases e'
      have hlen : ps.length = qs.length := by omega
      have go : ∀ (ps qs : List T) (r s : List (List Nat)), ps.length = qs.length → (∀ p ∈ ps, ∀ {u : T} {r s : List (List Nat)}, kindT ws u = true → wordsT p ++ r = wordsT u ++ s → p = u ∧ r = s) → (∀ q ∈ qs, kindT ws q = true) → wordsTs ps ++ r = wordsTs qs ++ s → ps = qs ∧ r = s := by
        intro ps
        induction ps with
        | nil =>
          intro qs r s hl _ _ he
          cases qs with
          | nil => exact ⟨rfl, he⟩
          | cons _ _ => cases hl
        | cons p ps ih2 =>
          intro qs r s hl h1 h2 he
          cases qs with
          | nil => cases hl
          | cons q qs =>
            simp only [wordsTs, List.append_assoc] at he
            obtain ⟨e1, he1⟩ := h1 p List.mem_cons_self (h2 q List.mem_cons_self) he
            obtain ⟨e2, he2⟩ := ih2 qs r s (Nat.succ.inj hl) (fun x hx => h1 x (List.mem_cons_of_mem _ hx)) (fun x hx => h2 x (List.mem_cons_of_mem _ hx)) he1
            exact ⟨by rw [e1, e2], he2⟩
      obtain ⟨e1, he1⟩ := go ps qs r s hlen ih hq he
      exact ⟨by rw [e1], he1⟩
theorem show_inj {n : Nat} {ws : Wn} (hws : WnOk n ws) {t u : T} (ht : kindT ws t = true) (hu : kindT ws u = true) (e : showT t = showT u) : t = u := by
  have h := congrArg (splitC 32) e
  rw [split_show hws ht, split_show hws hu] at h
  exact (words_inj hws ht (r := []) (s := []) hu (by rw [h])).1
theorem sum_le {α : Type} {f : α → Nat} {B : Nat} : ∀ {l : List α}, (∀ x ∈ l, f x ≤ B) → (l.map f).sum ≤ l.length * B
  | [], _ => by simp
  | x :: l, h => by
    have h1 := h x List.mem_cons_self
    have h2 := sum_le (l := l) fun y hy => h y (List.mem_cons_of_mem _ hy)
    simp only [List.map_cons, List.sum_cons, List.length_cons, Nat.succ_mul]
    omega
theorem wsz_flat : ∀ ps : List T, wsz (wordsTs ps) = (ps.map fun p => wsz (wordsT p)).sum
  | [] => rfl
  | p :: ps => by
    have ih := wsz_flat ps
    simp only [wordsTs, wsz_app, List.map_cons, List.sum_cons, ih]
theorem wsz_kind {n : Nat} {ws : Wn} (hws : WnOk n ws) : ∀ {t : T}, kindT ws t = true → ∀ d, dep t ≤ d → wsz (wordsT t) ≤ 10 * 4 ^ d := by
  intro t ht
  refine kind_ind (P := fun t => ∀ d, dep t ≤ d → wsz (wordsT t) ≤ 10 * 4 ^ d) (fun x hx d hd => ?_) (fun m v ps e hl hp ih d hd => ?_) ht
  · have := nameOk_len hx
    have h4 : 1 ≤ 4 ^ d := Nat.one_le_pow _ _ (by decide)
    simp only [wordsT, wsz, List.map_cons, List.map_nil, List.sum_cons, List.sum_nil, List.length_cons]
    omega
  · cases d with
    | zero => exact absurd hd (by simp only [dep]; omega)
    | succ d =>
      obtain ⟨h1, h2, h3⟩ := wn_name hws e
      have h8 := nameOk_len h1
      have h4 : 1 ≤ 4 ^ d := Nat.one_le_pow _ _ (by decide)
      simp only [wordsT, wordsU, List.cons_append, List.nil_append, wsz_cons, wsz_flat]
      have := sum_le (f := fun p => wsz (wordsT p)) (B := 10 * 4 ^ d) (l := ps) fun p hm => ih p hm d (by
        have := dep_part (ts := .str m :: ps) (List.mem_cons_of_mem _ hm)
        omega)
      have h5 : ps.length ≤ 3 := by omega
      have h6 : ps.length * (10 * 4 ^ d) ≤ 3 * (10 * 4 ^ d) := Nat.mul_le_mul_right _ h5
      rw [Nat.pow_succ]
      omega
theorem gr_name {x : List Nat} (h : nameOk x = true) : gr (.str x) = true := by
  unfold nameOk at h
  rw [Bool.and_eq_true] at h
  simp only [gr]
  refine List.all_eq_true.mpr fun c hc => decide_eq_true ?_
  have h2 := of_decide_eq_true (List.all_eq_true.mp h.2 c hc)
  have : ∀ c ∈ letters, c < 0x110000 := by decide +kernel
  exact this c h2
theorem grs_of : ∀ {ts : List T}, (∀ t ∈ ts, gr t = true) → grs ts = true
  | [], _ => rfl
  | t :: ts, h => by
    simp only [grs, Bool.and_eq_true]
    exact ⟨h t List.mem_cons_self, grs_of fun u hu => h u (List.mem_cons_of_mem _ hu)⟩
theorem gr_kind {n : Nat} {ws : Wn} (hws : WnOk n ws) {t : T} (h : kindT ws t = true) : gr t = true := by
  refine kind_ind (P := fun t => gr t = true) (fun x hx => gr_name hx) (fun m v ps e hl hp ih => ?_) h
  simp only [gr, grs, Bool.and_eq_true]
  exact ⟨gr_name (wn_name hws e).1, grs_of ih⟩
mutual
theorem eqv_st : ∀ {t : T}, stT t = true → PyData.eqv (toD t) (toD t) = true
  | .str x, _ => by simp [toD, PyData.eqv]
  | .tup ts, h => by
    simp only [stT] at h
    simp only [toD, PyData.eqv]
    exact eqv_sts h
  | .non, h => by simp [stT] at h
  | .bl _, h => by simp [stT] at h
  | .int _, h => by simp [stT] at h
  | .frz _, h => by simp [stT] at h
  | .obj _, h => by simp [stT] at h
theorem eqv_sts : ∀ {ts : List T}, stTs ts = true → PyData.eqvAll (toDs ts) (toDs ts) = true
  | [], _ => by simp [toDs, PyData.eqvAll]
  | t :: ts, h => by
    simp only [stTs, Bool.and_eq_true] at h
    simp only [toDs, PyData.eqvAll, Bool.and_eq_true]
    exact ⟨eqv_st h.1, eqv_sts h.2⟩
end
theorem toDS_gr {S : Sta} {t : T} (h : gr t = true) : toDS S t = some (toD t) := by
  cases t <;> first | (simp only [toDS, h, cond_true]; done) | simp [gr] at h
theorem ne_self {t : T} {S : Sta} {Q : T → Sta → Prop} (h1 : stT t = true) (h2 : gr t = true) (h3 : dep t ≤ 100) (q : Q (.bl false) S) : cmpG .NotEq t t S Q := by
  show neW t t S fun b => Q (.bl b) S
  cases t with
  | str x => simp only [neW]; simpa using q
  | tup ts =>
    simp only [neW]
    refine ⟨_, _, toDS_gr h2, toDS_gr h2, by rw [toD_dep]; omega, ?_⟩
    rw [eqv_st h1]
    exact q
  | _ => simp [stT] at h1
theorem teq_str {a b : List Nat} : teq (.str a) (.str b) = decide (a = b) := by
  unfold teq
  simp only [toD, PyData.eqv]
  by_cases h : a = b
  · subst h; simp
  · rw [decide_eq_false h]
    simp
    exact h
end TR
set_option Elab.async false
set_option linter.all false
set_option maxRecDepth 100000
set_option maxHeartbeats 2000000
/-! TK15: the second law's text. -/
namespace TR
open PySem PySem.Spec L2
open PyProof.Rows hiding St

theorem kind_congr {ws wso : Wn} (h : ∀ n, wso.lookup n = ws.lookup n) {t : T} (ht : kindT ws t = true) : kindT wso t = true := by
  refine kind_ind (P := fun t => kindT wso t = true) (fun x hx => by simpa only [kindT] using hx) (fun m v ps e hl hp ih => ?_) ht
  simp only [kindT, kindU, h m, e, Bool.and_eq_true, decide_eq_true_eq]
  refine ⟨hl, ?_⟩
  rw [kindsT_all]
  exact List.all_eq_true.mpr ih
theorem WnOk.mono {ws : Wn} (h : WnOk 7 ws) : WnOk 9 ws := ⟨by have := h.1; omega, h.2⟩
structure W2 (S : Sta) (p b w b2 w2 d : Nat) (ws wso : Wn) : Prop where
  pool : PoolAt S p
  book : BookAt S b w ws
  other : BookAt S b2 w2 wso
  wants : S[d]? = some (.dct (kvs ws))
section
variable {S S' : Sta} {p b w b2 w2 d : Nat} {ws wso : Wn}
theorem nd_dct {i : Nat} {x : List (T × T)} (h : PoolAt S p) (e : S[i]? = some (.dct x)) : ¬ i = p := fun z => by
  subst z
  obtain ⟨_, _, _, e2⟩ := h
  rw [e] at e2
  cases e2
theorem nd_ins {i : Nat} {c : List Nat} {x : List (List Nat × T)} (h : PoolAt S p) (e : S[i]? = some (.ins c x)) : ¬ i = p := fun z => by
  subst z
  obtain ⟨_, _, _, e2⟩ := h
  rw [e] at e2
  cases e2
theorem BookAt.pc' {b w : Nat} {ws : Wn} (h : BookAt S b w ws) (hp : PoolAt S p) (x : Pc p S S') : BookAt S' b w ws := by
  obtain ⟨⟨fs, e, _⟩, e2⟩ := id h
  exact h.ch x (nd_ins hp e) (nd_dct hp e2)
theorem W2.pc (h : W2 S p b w b2 w2 d ws wso) (x : Pc p S S') (hp : PoolAt S' p) : W2 S' p b w b2 w2 d ws wso :=
  ⟨hp, h.book.pc' h.pool x, h.other.pc' h.pool x, x.get h.wants (nd_dct h.pool h.wants)⟩
theorem W2.ex (h : W2 S p b w b2 w2 d ws wso) (x : Ex S S') : W2 S' p b w b2 w2 d ws wso := ⟨h.pool.ex x, h.book.ex x, h.other.ex x, x.get h.wants⟩
end
/-- texts known, each with its kind -/
def KnownAt (S : Sta) (kn : Nat) (ws : Wn) (j : Nat) : Prop := ∃ ks, S[kn]? = some (.dct ks) ∧ ks.length ≤ j ∧ ∀ e ∈ ks, ∃ v, e = (.str (showT v), v) ∧ kindT ws v = true
theorem dget_mem {ks : List (T × T)} {k v : T} (h : dget ks k = some v) : ∃ e ∈ ks, keyEq e.1 k = true ∧ e.2 = v := by
  unfold dget at h
  cases e : ks.find? fun p => keyEq p.1 k with
  | none => rw [e] at h; cases h
  | some q =>
    rw [e] at h
    cases h
    exact ⟨q, List.mem_of_find?_eq_some e, by have := List.find?_some e; exact this, rfl⟩
theorem dget_none {ks : List (T × T)} {k : T} (h : dget ks k = none) : (ks.any fun p => keyEq p.1 k) = false := by
  unfold dget at h
  rw [Option.map_eq_none_iff, List.find?_eq_none] at h
  rw [List.any_eq_false]
  exact h
/-- all that the law's text calls -/
structure Calls2 (W : Wd) (k : Nat) : Prop where
  h1 : W.Γ 1 = co_pool
  h2 : W.Γ 2 = co_cell
  h3 : W.Γm 3 = co_init (k + 19)
  h5 : W.Γ 5 = co_wanting (k + 20)
  h6 : W.Γ 6 = co_some_kind (k + 20)
  h13 : W.Γ 13 = co_declare_kind (k + 20)
  h20 : W.Γ 20 = co_show (k + 20)
  h21 : W.Γ 21 = co_same (k + 20)
  h23 : W.Γ 23 = co_read (k + 20)
section
variable {W : Wd} {k : Nat} {Q : T → Sta → Prop} {p b w b2 w2 d kn : Nat} {ws wso : Wn} {ns : List Int}
theorem law2_turn (C : Calls2 W k) {D : En} {o1 o4 o6 o9 o10 : Option T} {j : Nat} {S : Sta} (h : W2 S p b w b2 w2 d ws wso) (hws : WnOk 7 ws) (hwo : WnOk 9 wso) (hlk : ∀ n, wso.lookup n = ws.lookup n) (hkn : KnownAt S kn ws j) (hj : j < 8) (hne : b < kn ∧ w < kn ∧ b2 < kn ∧ w2 < kn ∧ d < kn ∧ p < kn)
    (q : ∀ S' o9 o10, W2 S' p b w b2 w2 d ws wso → KnownAt S' kn ws (j + 1) → D.nx [some (.frz (ns.map .int)), o1, some (.obj p), some (.obj d), o4, some (.obj kn), o6, some (.obj b), some (.obj b2), o9, o10] S') :
    denS W b_law_k02_0l_5l_0 D [some (.frz (ns.map .int)), o1, some (.obj p), some (.obj d), o4, some (.obj kn), o6, some (.obj b), some (.obj b2), o9, o10] S := by
  simp only [b_law_k02_0l_5l_0, wLc2, wDc, wSk, shR, wZip, wsAug, wD2, denS, den, denA, denI, denO, denT, denG, denGs, wsSeq, wsN, wsIf, wsR, wsX, wsAsg, wsFld, wsBrk, wsCnt, wVar, wC, wTup, wLst, wDisp, wDict0, wOp, wChain, wAnd, wOr, wNot, wIf, wSl, wFld, wIsi, wCall, wBm, wApp, wMeth, wMethK, wNew, wNil, wCons, woN, woS, wgN, wgSub, wgTup, wgStar, wgNil, wgCons, wT, wYes, wLc, wIt, wRng1, wRng2, wsFor, wipeE, Bi.run, Bm.run, Bm.ty, List.getElem?_cons_zero, List.getElem?_cons_succ, List.set_cons_zero, List.set_cons_succ, Option.some.injEq, exists_eq_left', tru_bl, List.append_nil, C.h6]
  refine ⟨rfl, (p, d, ws, 3), rfl, ⟨h.pool, h.wants, hws, (show 3 + 2 ≤ k + 20 by omega)⟩, fun t S1 z => ?_⟩
  obtain ⟨x1, p1, kt, wt, dt⟩ := z
  have kt : kindT ws t = true := kt
  have dt : dep t ≤ 3 := dt
  have hz : wsz (wordsT t) ≤ 2 ^ 20 := Nat.le_trans (wsz_kind hws kt 3 dt) (by decide)
  have ko := kind_congr hlk kt
  have h1 := h.pc x1 p1
  obtain ⟨ks, hk0, hkl, hkm⟩ := hkn
  have hk1 := x1.get hk0 (nd_dct h.pool hk0)
  simp only [b_law_k02_0l_5l_1, wLc2, wDc, wSk, shR, wZip, wsAug, wD2, denS, den, denA, denI, denO, denT, denG, denGs, wsSeq, wsN, wsIf, wsR, wsX, wsAsg, wsFld, wsBrk, wsCnt, wVar, wC, wTup, wLst, wDisp, wDict0, wOp, wChain, wAnd, wOr, wNot, wIf, wSl, wFld, wIsi, wCall, wBm, wApp, wMeth, wMethK, wNew, wNil, wCons, woN, woS, wgN, wgSub, wgTup, wgStar, wgNil, wgCons, wT, wYes, wLc, wIt, wRng1, wRng2, wsFor, wipeE, Bi.run, Bm.run, Bm.ty, List.getElem?_cons_zero, List.getElem?_cons_succ, List.set_cons_zero, List.set_cons_succ, Option.some.injEq, exists_eq_left', tru_bl, List.append_nil, C.h20]
  refine ⟨rfl, t, rfl, ⟨kind_shape kt, hz, (show dep t + 1 ≤ k + 20 by omega)⟩, fun r S2 z => ?_⟩
  obtain ⟨x2, rfl⟩ := z
  simp only [b_law_k02_0l_5l_2, wLc2, wDc, wSk, shR, wZip, wsAug, wD2, denS, den, denA, denI, denO, denT, denG, denGs, wsSeq, wsN, wsIf, wsR, wsX, wsAsg, wsFld, wsBrk, wsCnt, wVar, wC, wTup, wLst, wDisp, wDict0, wOp, wChain, wAnd, wOr, wNot, wIf, wSl, wFld, wIsi, wCall, wBm, wApp, wMeth, wMethK, wNew, wNil, wCons, woN, woS, wgN, wgSub, wgTup, wgStar, wgNil, wgCons, wT, wYes, wLc, wIt, wRng1, wRng2, wsFor, wipeE, Bi.run, Bm.run, Bm.ty, List.getElem?_cons_zero, List.getElem?_cons_succ, List.set_cons_zero, List.set_cons_succ, Option.some.injEq, exists_eq_left', tru_bl, List.append_nil, C.h20, C.h21, C.h23]
  refine ⟨rfl, t, rfl, ⟨kind_shape kt, hz, (show dep t + 1 ≤ k + 20 by omega)⟩, fun r S3 z => ?_⟩
  obtain ⟨x3, rfl⟩ := z
  have h3 := (h1.ex x2).ex x3
  refine cg_ne_str ?_
  simp only [decide_true, Bool.not_true, tru_bl, Bool.false_eq_true, if_false]
  refine ⟨rfl, (b, w, ws, t), rfl, ⟨h3.book, hws.mono, kt, hz, (show dep t + 2 ≤ k + 20 by omega)⟩, fun r S4 z => ?_⟩
  obtain ⟨x4, rfl⟩ := z
  have st := isKT_st (kind_shape kt)
  refine ⟨rfl, r, rfl, ⟨st, wt, (show dep r + 1 ≤ k + 20 by omega)⟩, fun r' S5 z => ?_⟩
  obtain ⟨x5, rfl⟩ := z
  have h5 := (h3.ex x4).ex x5
  simp only [Bool.not_true, tru_bl, Bool.false_eq_true, if_false]
  simp only [b_law_k02_0l_5l_3, wLc2, wDc, wSk, shR, wZip, wsAug, wD2, denS, den, denA, denI, denO, denT, denG, denGs, wsSeq, wsN, wsIf, wsR, wsX, wsAsg, wsFld, wsBrk, wsCnt, wVar, wC, wTup, wLst, wDisp, wDict0, wOp, wChain, wAnd, wOr, wNot, wIf, wSl, wFld, wIsi, wCall, wBm, wApp, wMeth, wMethK, wNew, wNil, wCons, woN, woS, wgN, wgSub, wgTup, wgStar, wgNil, wgCons, wT, wYes, wLc, wIt, wRng1, wRng2, wsFor, wipeE, Bi.run, Bm.run, Bm.ty, List.getElem?_cons_zero, List.getElem?_cons_succ, List.set_cons_zero, List.set_cons_succ, Option.some.injEq, exists_eq_left', tru_bl, List.append_nil, C.h21, C.h23]
  refine ⟨rfl, (b2, w2, wso, r), rfl, ⟨h5.other, hwo, ko, hz, (show dep r + 2 ≤ k + 20 by omega)⟩, fun r' S6 z => ?_⟩
  obtain ⟨x6, rfl⟩ := z
  refine ⟨rfl, r', rfl, ⟨st, wt, (show dep r' + 1 ≤ k + 20 by omega)⟩, fun t' S7 z => ?_⟩
  obtain ⟨x7, rfl⟩ := z
  have h7 := (h5.ex x6).ex x7
  simp only [Bool.not_true, tru_bl, Bool.false_eq_true, if_false]
  have hk7 : S7[kn]? = some (.dct ks) := x7.get (x6.get (x5.get (x4.get (x3.get (x2.get hk1)))))
  refine ⟨kn, ks, rfl, hk7, ks, hk7, rfl, by rw [sizeLine_val]; omega, ?_⟩
  have gt := gr_kind hws kt
  cases e : dget ks (.str (showT r')) with
  | some v =>
    obtain ⟨en, hen, hkey, rfl⟩ := dget_mem e
    obtain ⟨v, rfl, kv⟩ := hkm en hen
    have e2 : showT v = showT r' := of_decide_eq_true hkey
    have := show_inj hws kv kt e2
    subst this
    refine ne_self st gt (show dep v ≤ 100 by omega) ?_
    simp only [tru_bl, Bool.false_eq_true, if_false]
    exact q S7 _ _ h7 ⟨ks, hk7, by omega, hkm⟩
  | none =>
    refine ne_self st gt (by omega) ?_
    simp only [tru_bl, Bool.false_eq_true, if_false]
    have x8 : Ch (fun i => i = kn) S7 (S7.set kn (.dct (dput ks (.str (showT r')) r'))) := Ch.set (fun _ => rfl) (by rw [hk7]; rfl)
    obtain ⟨n1, n2, n3, n4, n5, n6⟩ := hne
    have h8 : W2 (S7.set kn (.dct (dput ks (.str (showT r')) r'))) p b w b2 w2 d ws wso := ⟨h7.pool.ch x8 (by omega), h7.book.ch x8 (by omega) (by omega), h7.other.ch x8 (by omega) (by omega), x8.get h7.wants (by omega)⟩
    refine q _ _ _ h8 ⟨_, get_set hk7, ?_, ?_⟩
    · unfold dput
      rw [if_neg (by rw [dget_none e]; exact Bool.false_ne_true), List.length_append, List.length_singleton]
      omega
    · unfold dput
      rw [if_neg (by rw [dget_none e]; exact Bool.false_ne_true)]
      intro en hen
      rcases List.mem_append.mp hen with hen | hen
      · exact hkm en hen
      · rw [List.mem_singleton.mp hen]
        exact ⟨r', rfl, kt⟩
theorem law2_known (C : Calls2 W k) {D : En} {o1 o4 o5 o6 o9 o10 : Option T} {S : Sta} (h : W2 S p b w b2 w2 d ws wso) (hws : WnOk 7 ws) (hwo : WnOk 9 wso) (hlk : ∀ n, wso.lookup n = ws.lookup n)
    (q : ∀ S' o5 o6 o9 o10, D.nx [some (.frz (ns.map .int)), o1, some (.obj p), some (.obj d), o4, o5, o6, some (.obj b), some (.obj b2), o9, o10] S') :
    denS W b_law_k02_0l_4 D [some (.frz (ns.map .int)), o1, some (.obj p), some (.obj d), o4, o5, o6, some (.obj b), some (.obj b2), o9, o10] S := by
  simp only [b_law_k02_0l_4, wLc2, wDc, wSk, shR, wZip, wsAug, wD2, denS, den, denA, denI, denO, denT, denG, denGs, wsSeq, wsN, wsIf, wsR, wsX, wsAsg, wsFld, wsBrk, wsCnt, wVar, wC, wTup, wLst, wDisp, wDict0, wOp, wChain, wAnd, wOr, wNot, wIf, wSl, wFld, wIsi, wCall, wBm, wApp, wMeth, wMethK, wNew, wNil, wCons, woN, woS, wgN, wgSub, wgTup, wgStar, wgNil, wgCons, wT, wYes, wLc, wIt, wRng1, wRng2, wsFor, wipeE, Bi.run, Bm.run, Bm.ty, List.getElem?_cons_zero, List.getElem?_cons_succ, List.set_cons_zero, List.set_cons_succ, Option.some.injEq, exists_eq_left', tru_bl, List.append_nil]
  have hk : (S ++ [Cell.dct []])[S.length]? = some (.dct []) := get_new
  have h1 := h.ex (S' := S ++ [Cell.dct []]) .app
  have hb : b < S.length := by obtain ⟨⟨_, e, _⟩, _⟩ := h.book; exact lt_of_some e
  have hb2 : b2 < S.length := by obtain ⟨⟨_, e, _⟩, _⟩ := h.other; exact lt_of_some e
  have hp : p < S.length := by obtain ⟨_, _, _, e⟩ := h.pool; exact lt_of_some e
  have hne : b < S.length ∧ w < S.length ∧ b2 < S.length ∧ w2 < S.length ∧ d < S.length ∧ p < S.length := ⟨hb, lt_of_some h.book.wants, hb2, lt_of_some h.other.wants, lt_of_some h.wants, hp⟩
  generalize S.length = kn at hk hne ⊢
  generalize S ++ [Cell.dct []] = S1 at hk h1 ⊢
  simp only [b_law_k02_0l_5, wLc2, wDc, wSk, shR, wZip, wsAug, wD2, denS, den, denA, denI, denO, denT, denG, denGs, wsSeq, wsN, wsIf, wsR, wsX, wsAsg, wsFld, wsBrk, wsCnt, wVar, wC, wTup, wLst, wDisp, wDict0, wOp, wChain, wAnd, wOr, wNot, wIf, wSl, wFld, wIsi, wCall, wBm, wApp, wMeth, wMethK, wNew, wNil, wCons, woN, woS, wgN, wgSub, wgTup, wgStar, wgNil, wgCons, wT, wYes, wLc, wIt, wRng1, wRng2, wsFor, wipeE, Bi.run, Bm.run, Bm.ty, List.getElem?_cons_zero, List.getElem?_cons_succ, List.set_cons_zero, List.set_cons_succ, Option.some.injEq, exists_eq_left', tru_bl, List.append_nil]
  refine ⟨by decide, by decide, forW_by (fun j ρ S' => j ≤ 8 ∧ W2 S' p b w b2 w2 d ws wso ∧ KnownAt S' kn ws j ∧ ∃ o6 o9 o10, ρ = [some (.frz (ns.map .int)), o1, some (.obj p), some (.obj d), o4, some (.obj kn), o6, some (.obj b), some (.obj b2), o9, o10]) ⟨by omega, h1, ⟨[], hk, by simp, by simp⟩, _, _, _, rfl⟩ (fun _ _ _ _ => trivial) (fun i x ρ S' e z => ?_) (fun ρ S' z => ?_) (mono_denS W _)⟩
  · obtain ⟨_, h2, k2, o6, o9, o10, rfl⟩ := z
    obtain ⟨rfl, hi⟩ := rng_mem e
    have hi : i < 8 := hi
    refine ⟨_, bd_nm _ _ _ _, ?_⟩
    simp only [wLc2, wDc, wSk, shR, wZip, wsAug, wD2, denS, den, denA, denI, denO, denT, denG, denGs, wsSeq, wsN, wsIf, wsR, wsX, wsAsg, wsFld, wsBrk, wsCnt, wVar, wC, wTup, wLst, wDisp, wDict0, wOp, wChain, wAnd, wOr, wNot, wIf, wSl, wFld, wIsi, wCall, wBm, wApp, wMeth, wMethK, wNew, wNil, wCons, woN, woS, wgN, wgSub, wgTup, wgStar, wgNil, wgCons, wT, wYes, wLc, wIt, wRng1, wRng2, wsFor, wipeE, Bi.run, Bm.run, Bm.ty, List.getElem?_cons_zero, List.getElem?_cons_succ, List.set_cons_zero, List.set_cons_succ, Option.some.injEq, exists_eq_left', tru_bl, List.append_nil]
    exact law2_turn C h2 hws hwo hlk k2 hi hne fun S' o9 o10 h' k' => ⟨by omega, h', k', _, _, _, rfl⟩
  · obtain ⟨_, h2, k2, o6, o9, o10, rfl⟩ := z
    exact q _ _ _ _ _
end
end TR
set_option Elab.async false
set_option linter.all false
set_option maxRecDepth 100000
set_option maxHeartbeats 2000000
/-! TK16: the second law's text: its cells. -/
namespace TR
open PySem PySem.Spec L2
open PyProof.Rows hiding St

theorem notin_two {S : Sta} {y : List Nat} {Q : T → Sta → Prop} (hy : nameOk y = true) (q : Q (.bl !(decide (tx "bool" = y) || decide (tx "fun" = y))) (S ++ [Cell.lst [.str (tx "bool"), .str (tx "fun")]])) : cmpG .NotIn (.str y) (.obj S.length) (S ++ [Cell.lst [.str (tx "bool"), .str (tx "fun")]]) Q := by
  refine inW_lst (Q := fun b => Q (.bl !b) _) get_new (gr_name hy) (by decide +kernel) (by simp [dep]) ?_
  simp only [List.any_cons, List.any_nil, teq_str, Bool.or_false]
  exact q
theorem lookup_snoc {ws : Wn} {y : List Nat} {m : Int} (h : ws.lookup y = none) (n : List Nat) : (ws ++ [(y, m)]).lookup n = if n = y then some m else ws.lookup n := by
  rw [List.lookup_append]
  by_cases e : n = y
  · subst e
    rw [h, if_pos rfl]
    simp [List.lookup_cons]
  · rw [if_neg e]
    have : (n == y) = false := by simpa using e
    simp [List.lookup_cons, this]
section
variable {W : Wd} {k : Nat} {Q : T → Sta → Prop} {p b w b2 w2 kl2 d : Nat} {ws : Wn} {ns : List Int}
theorem law2_decl (C : Calls2 W k) {D : En} {o1 o4 o5 o6 o9 o10 : Option T} {S : Sta} (h : W2 S p b w b2 w2 d ws ws0) (hK : KeptAt S b2 kl2 []) (hws : WnOk 7 ws) (hwx : WnX ws)
    (hne : (p ≠ w2 ∧ p ≠ kl2) ∧ (b ≠ w2 ∧ b ≠ kl2) ∧ (w ≠ w2 ∧ w ≠ kl2) ∧ d ≠ w2 ∧ d ≠ kl2)
    (q : ∀ S' o4 o5 o6 o9 o10, D.nx [some (.frz (ns.map .int)), o1, some (.obj p), some (.obj d), o4, o5, o6, some (.obj b), some (.obj b2), o9, o10] S') :
    denS W b_law_k02_0l_3 D [some (.frz (ns.map .int)), o1, some (.obj p), some (.obj d), o4, o5, o6, some (.obj b), some (.obj b2), o9, o10] S := by
  simp only [b_law_k02_0l_3, wLc2, wDc, wSk, shR, wZip, wsAug, wD2, denS, den, denA, denI, denO, denT, denG, denGs, wsSeq, wsN, wsIf, wsR, wsX, wsAsg, wsFld, wsBrk, wsCnt, wVar, wC, wTup, wLst, wDisp, wDict0, wOp, wChain, wAnd, wOr, wNot, wIf, wSl, wFld, wIsi, wCall, wBm, wApp, wMeth, wMethK, wNew, wNil, wCons, woN, woS, wgN, wgSub, wgTup, wgStar, wgNil, wgCons, wT, wYes, wLc, wIt, wRng1, wRng2, wsFor, wipeE, Bi.run, Bm.run, Bm.ty, List.getElem?_cons_zero, List.getElem?_cons_succ, List.set_cons_zero, List.set_cons_succ, Option.some.injEq, exists_eq_left', tru_bl, List.append_nil]
  refine gSorted_ok h.wants hws.1 fun ys hys => ?_
  have hl : (S ++ [Cell.lst (ys.map T.str)])[S.length]? = some (.lst (ys.map T.str)) := get_new
  have h1 := h.ex (S' := S ++ [Cell.lst (ys.map T.str)]) .app
  have hK1 : KeptAt (S ++ [Cell.lst (ys.map T.str)]) b2 kl2 [] := by
    obtain ⟨⟨fs, e1, e2⟩, e3⟩ := hK
    exact ⟨⟨fs, get_app e1, e2⟩, get_app e3⟩
  have hw2 : w2 < S.length := lt_of_some h.other.wants
  have hk2 : kl2 < S.length := lt_of_some hK.2
  have hlen : S.length < (S ++ [Cell.lst (ys.map T.str)]).length := by simp
  generalize S ++ [Cell.lst (ys.map T.str)] = S1 at hl h1 hK1 hlen ⊢
  generalize S.length = sl at hl hw2 hk2 hlen ⊢
  have hnd : ys.Nodup := hys.nodup_iff.mpr hwx.2
  have hlen : ys.length ≤ 7 := by rw [hys.length_eq, List.length_map]; exact hws.1
  obtain ⟨⟨more, hmore⟩, hnd2⟩ := hwx
  have hb0 : ws.lookup (tx "bool") = some 0 := by rw [hmore]; rfl
  have hf0 : ws.lookup (tx "fun") = some 2 := by rw [hmore]; rfl
  refine iterW_lst hl (forW_by (fun j ρ S' => S'[sl]? = some (.lst (ys.map T.str)) ∧ ∃ wso ks o4, W2 S' p b w b2 w2 d ws wso ∧ KeptAt S' b2 kl2 ks ∧ ks.length ≤ j ∧ WnOk 9 wso ∧ wso.length ≤ 2 + j ∧
      (∀ n, wso.lookup n = if n = tx "bool" ∨ n = tx "fun" ∨ n ∈ ys.take j then ws.lookup n else none) ∧ ρ = [some (.frz (ns.map .int)), o1, some (.obj p), some (.obj d), o4, o5, o6, some (.obj b), some (.obj b2), o9, o10])
    ⟨hl, ws0, [], o4, h1, hK1, by simp, ⟨by decide, ws0_ok.2⟩, by decide, fun n => ?_, rfl⟩ (fun _ _ _ h => h.1) (fun i x ρ S' e z => ?_) (fun ρ S' z => ?_) (mono_denS W _))
  · rw [List.take_zero]
    by_cases e1 : n = tx "bool"
    · subst e1; rw [if_pos (.inl rfl), hb0]; rfl
    · by_cases e2 : n = tx "fun"
      · subst e2; rw [if_pos (.inr (.inl rfl)), hf0]; rfl
      · rw [if_neg (by simp [e1, e2])]
        simp [ws0, List.lookup_cons, show (n == tx "bool") = false from by simpa using e1, show (n == tx "fun") = false from by simpa using e2]
  · obtain ⟨hl', wso, ks, o4, h2, hK2, hks, hwo, hwl, hlk, rfl⟩ := z
    rw [List.getElem?_map] at e
    cases ey : ys[i]? with
    | none => rw [ey] at e; cases e
    | some y =>
      rw [ey] at e
      cases e
      have hi : i < ys.length := (List.getElem?_eq_some_iff.mp ey).1
      have hym : y ∈ ws.map (·.1) := hys.mem_iff.mp (List.mem_of_getElem? ey)
      obtain ⟨m, hm, m0, m3, hy⟩ := wn_lookup hws hym
      have htk : ∀ n, n ∈ ys.take (i + 1) ↔ n ∈ ys.take i ∨ n = y := fun n => by
        rw [List.take_add_one, ey, List.mem_append]
        simp
      refine ⟨_, bd_nm _ _ _ _, ?_⟩
      simp only [b_law_k02_0l_3l_0, wLc2, wDc, wSk, shR, wZip, wsAug, wD2, denS, den, denA, denI, denO, denT, denG, denGs, wsSeq, wsN, wsIf, wsR, wsX, wsAsg, wsFld, wsBrk, wsCnt, wVar, wC, wTup, wLst, wDisp, wDict0, wOp, wChain, wAnd, wOr, wNot, wIf, wSl, wFld, wIsi, wCall, wBm, wApp, wMeth, wMethK, wNew, wNil, wCons, woN, woS, wgN, wgSub, wgTup, wgStar, wgNil, wgCons, wT, wYes, wLc, wIt, wRng1, wRng2, wsFor, wipeE, Bi.run, Bm.run, Bm.ty, List.getElem?_cons_zero, List.getElem?_cons_succ, List.set_cons_zero, List.set_cons_succ, Option.some.injEq, exists_eq_left', tru_bl, List.append_nil]
      refine ⟨by simp [sizeLine_val], notin_two hy ?_⟩
      have x3 : Ex S' (S' ++ [Cell.lst [T.str (tx "bool"), .str (tx "fun")]]) := .app
      generalize S' ++ [Cell.lst [T.str (tx "bool"), .str (tx "fun")]] = S3 at x3 ⊢
      have h3 := h2.ex x3
      have hl3 := x3.get hl'
      have hK3 : KeptAt S3 b2 kl2 ks := by
        obtain ⟨⟨fs, e1, e2⟩, e3⟩ := hK2
        exact ⟨⟨fs, x3.get e1, e2⟩, x3.get e3⟩
      have same : (tx "bool" = y ∨ tx "fun" = y) → ∀ n, wso.lookup n = if n = tx "bool" ∨ n = tx "fun" ∨ n ∈ ys.take (i + 1) then ws.lookup n else none := fun hy2 n => by
        rw [hlk n]
        congr 1
        refine propext ⟨fun z => ?_, fun z => ?_⟩
        · rcases z with z | z | z
          · exact .inl z
          · exact .inr (.inl z)
          · exact .inr (.inr ((htk n).mpr (.inl z)))
        · rcases z with z | z | z
          · exact .inl z
          · exact .inr (.inl z)
          · rcases (htk n).mp z with z | rfl
            · exact .inr (.inr z)
            · rcases hy2 with e | e
              · exact .inl e.symm
              · exact .inr (.inl e.symm)
      by_cases hb : tx "bool" = y ∨ tx "fun" = y
      · have e0 : (decide (tx "bool" = y) || decide (tx "fun" = y)) = true := by simpa using hb
        simp only [e0, Bool.not_true, tru_bl, Bool.false_eq_true, if_false]
        exact ⟨hl3, wso, ks, _, h3, hK3, by omega, hwo, by omega, same hb, rfl⟩
      · have e0 : (decide (tx "bool" = y) || decide (tx "fun" = y)) = false := by simpa using hb
        simp only [e0, Bool.not_false, tru_bl, if_true, C.h13]
        rw [not_or] at hb
        have hno : wso.lookup y = none := by
          rw [hlk y, if_neg]
          rintro (z | z | z)
          · exact hb.1 z.symm
          · exact hb.2 z.symm
          · obtain ⟨j, hj⟩ := List.getElem?_of_mem z
            rw [List.getElem?_take] at hj
            by_cases hji : j < i
            · rw [if_pos hji] at hj
              have h5 := (List.getElem?_inj hi hnd).mp (ey.trans hj.symm)
              omega
            · rw [if_neg hji] at hj
              cases hj
        obtain ⟨⟨fs, eb, ef, eF⟩, _⟩ := id h3.other
        refine ⟨insOf_ok eb (lookup_keys eF (by decide +kernel)), ixG_dct h3.wants rfl (by rw [dget_kvs, hm]; rfl) ⟨rfl, rfl, rfl, (b2, w2, kl2, wso, ks, y, m), rfl, ⟨h3.other, hK3, (show ks.length < 1000 by omega), (show wso.length < 1000 by have := hwo.1; omega), hy, hno, m0, m3, (show 2 ≤ k + 20 by omega)⟩, fun r S4 z => ?_⟩⟩
        obtain ⟨x4, hB4, hK4, _⟩ := z
        have x4 : Ch (fun i => i = w2 ∨ i = kl2) S3 S4 := x4
        obtain ⟨⟨n1, n2⟩, ⟨n3, n4⟩, ⟨n5, n6⟩, n7, n8⟩ := hne
        refine ⟨x4.get hl3 (by omega), wso ++ [(y, m)], _, _, ⟨h3.pool.ch x4 (by omega), h3.book.ch x4 (by omega) (by omega), hB4, x4.get h3.wants (by omega)⟩, hK4, ?_, ⟨?_, ?_, fun z hz => ?_⟩, ?_, fun n => ?_, rfl⟩
        · show (ks ++ [_]).length ≤ i + 1
          rw [List.length_append, List.length_singleton]; omega
        · rw [List.length_append, List.length_singleton]; omega
        · rw [List.length_append, List.length_singleton]; have := hwo.2.1; omega
        · rcases List.mem_append.mp hz with hz | hz
          · exact hwo.2.2 z hz
          · rw [List.mem_singleton.mp hz]
            exact ⟨m0, m3, hy⟩
        · rw [List.length_append, List.length_singleton]; omega
        · rw [lookup_snoc hno n]
          by_cases en : n = y
          · subst en
            rw [if_pos rfl, if_pos (.inr (.inr ((htk n).mpr (.inr rfl)))), hm]
          · rw [if_neg en, hlk n]
            congr 1
            refine propext ⟨fun z => ?_, fun z => ?_⟩
            · rcases z with z | z | z
              · exact .inl z
              · exact .inr (.inl z)
              · exact .inr (.inr ((htk n).mpr (.inl z)))
            · rcases z with z | z | z
              · exact .inl z
              · exact .inr (.inl z)
              · rcases (htk n).mp z with z | z
                · exact .inr (.inr z)
                · exact absurd z en
  · obtain ⟨_, wso, ks, o4, h2, _, _, hwo, _, hlk, rfl⟩ := z
    refine law2_known C h2 hws hwo (fun n => ?_) fun S' o5 o6 o9 o10 => q _ _ _ _ _ _
    rw [hlk n]
    split
    · rfl
    · rename_i hn
      rw [not_or, not_or, List.length_map, List.take_length] at hn
      have : n ∉ ws.map (·.1) := fun z => hn.2.2 (hys.mem_iff.mpr z)
      rw [lookup_keys rfl this]
/-- a cell -/
theorem law2_cell (C : Calls2 W k) {D : En} {i : Nat} {o2 o3 o4 o5 o6 o7 o8 o9 o10 : Option T} {S : Sta} (hi : i < 2 ^ 20)
    (q : ∀ S' o2 o3 o4 o5 o6 o7 o8 o9 o10, D.nx [some (.frz (ns.map .int)), some (.int (i : Int)), o2, o3, o4, o5, o6, o7, o8, o9, o10] S') :
    denS W b_law_k02_0l_0 D [some (.frz (ns.map .int)), some (.int (i : Int)), o2, o3, o4, o5, o6, o7, o8, o9, o10] S := by
  simp only [b_law_k02_0l_0, wLc2, wDc, wSk, shR, wZip, wsAug, wD2, denS, den, denA, denI, denO, denT, denG, denGs, wsSeq, wsN, wsIf, wsR, wsX, wsAsg, wsFld, wsBrk, wsCnt, wVar, wC, wTup, wLst, wDisp, wDict0, wOp, wChain, wAnd, wOr, wNot, wIf, wSl, wFld, wIsi, wCall, wBm, wApp, wMeth, wMethK, wNew, wNil, wCons, woN, woS, wgN, wgSub, wgTup, wgStar, wgNil, wgCons, wT, wYes, wLc, wIt, wRng1, wRng2, wsFor, wipeE, Bi.run, Bm.run, Bm.ty, List.getElem?_cons_zero, List.getElem?_cons_succ, List.set_cons_zero, List.set_cons_succ, Option.some.injEq, exists_eq_left', tru_bl, List.append_nil, C.h1, C.h2]
  refine ⟨rfl, (ns, (i : Int)), rfl, ⟨(show (0 : Int) ≤ i by omega), (show (i : Int) < 2 ^ 30 by omega)⟩, fun r S1 z => ?_⟩
  obtain ⟨x1, c, rfl⟩ := z
  refine ⟨rfl, c, rfl, trivial, fun r S2 z => ?_⟩
  obtain ⟨x2, p, rfl, hp, p2⟩ := z
  simp only [b_law_k02_0l_1, wLc2, wDc, wSk, shR, wZip, wsAug, wD2, denS, den, denA, denI, denO, denT, denG, denGs, wsSeq, wsN, wsIf, wsR, wsX, wsAsg, wsFld, wsBrk, wsCnt, wVar, wC, wTup, wLst, wDisp, wDict0, wOp, wChain, wAnd, wOr, wNot, wIf, wSl, wFld, wIsi, wCall, wBm, wApp, wMeth, wMethK, wNew, wNil, wCons, woN, woS, wgN, wgSub, wgTup, wgStar, wgNil, wgCons, wT, wYes, wLc, wIt, wRng1, wRng2, wsFor, wipeE, Bi.run, Bm.run, Bm.ty, List.getElem?_cons_zero, List.getElem?_cons_succ, List.set_cons_zero, List.set_cons_succ, Option.some.injEq, exists_eq_left', tru_bl, List.append_nil, C.h3]
  have n2 : (S2 ++ [Cell.ins (tx "Book") []])[S2.length]? = some (.ins (tx "Book") []) := get_new
  refine ⟨rfl, S2.length, rfl, ⟨n2, by omega⟩, fun r S3 z => ?_⟩
  obtain ⟨x3, rfl, w, kl, hw, hkl, B3, K3⟩ := z
  have hpS2 : p < S2.length := by obtain ⟨_, _, _, e⟩ := p2; exact lt_of_some e
  have p3 : PoolAt S3 p := (p2.ex .app).ch x3 (show ¬ p = S2.length by omega)
  have n3 : (S3 ++ [Cell.ins (tx "Book") []])[S3.length]? = some (.ins (tx "Book") []) := get_new
  refine ⟨rfl, rfl, S3.length, rfl, ⟨n3, by omega⟩, fun r S4 z => ?_⟩
  obtain ⟨x4, rfl, w2, kl2, hw2, hkl2, B4, K4⟩ := z
  have hS3 := x3.len
  have hbS3 : S2.length < S3.length := by obtain ⟨⟨_, e, _⟩, _⟩ := B3; exact lt_of_some e
  have hwS3 := lt_of_some B3.wants
  have hkS3 := lt_of_some K3.2
  have p4 : PoolAt S4 p := (p3.ex .app).ch x4 (show ¬ p = S3.length by omega)
  have B4' : BookAt S4 S2.length w ws0 := (B3.ex .app).ch x4 (show ¬ S2.length = S3.length by omega) (show ¬ w = S3.length by omega)
  have K4' : KeptAt S4 S2.length kl [] := by
    obtain ⟨⟨fs, e1, e2⟩, e3⟩ := K3
    exact ⟨⟨fs, x4.get (get_app e1) (show ¬ S2.length = S3.length by omega), e2⟩, x4.get (get_app e3) (show ¬ kl = S3.length by omega)⟩
  refine ⟨rfl, by simp [sizeLine_val], rfl, trivial, ?_⟩
  rw [List.length_append, List.length_singleton] at hw hkl hw2 hkl2
  generalize hb : S2.length = b at *
  generalize hb2 : S3.length = b2 at *
  simp only [b_law_k02_0l_2, wLc2, wDc, wSk, shR, wZip, wsAug, wD2, denS, den, denA, denI, denO, denT, denG, denGs, wsSeq, wsN, wsIf, wsR, wsX, wsAsg, wsFld, wsBrk, wsCnt, wVar, wC, wTup, wLst, wDisp, wDict0, wOp, wChain, wAnd, wOr, wNot, wIf, wSl, wFld, wIsi, wCall, wBm, wApp, wMeth, wMethK, wNew, wNil, wCons, woN, woS, wgN, wgSub, wgTup, wgStar, wgNil, wgCons, wT, wYes, wLc, wIt, wRng1, wRng2, wsFor, wipeE, Bi.run, Bm.run, Bm.ty, List.getElem?_cons_zero, List.getElem?_cons_succ, List.set_cons_zero, List.set_cons_succ, Option.some.injEq, exists_eq_left', tru_bl, List.append_nil, C.h5]
  refine ⟨rfl, (p, b, w, kl), rfl, ⟨p4, B4', K4', (show p ≠ kl by omega), (show 3 ≤ k + 20 by omega)⟩, fun r S7 z => ?_⟩
  obtain ⟨x7, p7, d, ws, rfl, hd, hd7, B7, hws, hwx⟩ := z
  have hd : S4.length ≤ d := hd
  have B7 : BookAt S7 b w ws := B7
  have hw2S := lt_of_some B4.wants
  have hk2S := lt_of_some K4.2
  have O7 : BookAt S7 b2 w2 ws0 := B4.ch x7 (show ¬ (b2 = p ∨ b2 = w ∨ b2 = kl) by omega) (show ¬ (w2 = p ∨ w2 = w ∨ w2 = kl) by omega)
  have K7 : KeptAt S7 b2 kl2 [] := K4.ch x7 (show ¬ (b2 = p ∨ b2 = w ∨ b2 = kl) by omega) (show ¬ (kl2 = p ∨ kl2 = w ∨ kl2 = kl) by omega)
  exact law2_decl C ⟨p7, B7, O7, hd7⟩ K7 hws hwx (by omega) fun S' o4 o5 o6 o9 o10 => q _ _ _ _ _ _ _ _ _ _
end
/-- the law: need 21 -/
def co_law_k02 (k : Nat) : Co := Co.of 1 (A := List Int) (fun ns => [.frz (ns.map .int)]) (fun _ _ => 21 ≤ k) (fun _ _ r _ => r = .bl true)
theorem cells_max {S : Sta} {K : T → Sta → Prop} {ns : List Int} {lo hi : Int} (h0 : 0 ≤ lo ∧ lo ≤ 100) (h1 : 0 ≤ hi ∧ hi ≤ 100) (q : ∀ e : Int, 0 ≤ e → e ≤ 100 → K (.int e) S) :
    gLen [.frz (ns.map .int)] S fun x S => gMin [x, .int hi] S fun y S => gMax [.int lo, y] S K := by
  refine gLen_frz ?_
  rw [List.length_map]
  by_cases h : hi < ns.length
  · simp only [gMin, h, if_true, gMax]
    split
    · exact q _ (by omega) (by omega)
    · exact q _ (by omega) (by omega)
  · simp only [gMin, h, if_false, gMax]
    split
    · exact q _ (by omega) (by omega)
    · exact q _ (by omega) (by omega)
theorem st_law_k02 {W : Wd} {k : Nat} (C : Calls2 W k) {ns : List Int} {S : Sta} {Q : T → Sta → Prop} (q : ∀ r S', r = .bl true → Q r S') :
    denS W b_law_k02_0 (En0 Q) [some (.frz (ns.map .int)), none, none, none, none, none, none, none, none, none, none] S := by
  simp only [b_law_k02_0, wLc2, wDc, wSk, shR, wZip, wsAug, wD2, denS, den, denA, denI, denO, denT, denG, denGs, wsSeq, wsN, wsIf, wsR, wsX, wsAsg, wsFld, wsBrk, wsCnt, wVar, wC, wTup, wLst, wDisp, wDict0, wOp, wChain, wAnd, wOr, wNot, wIf, wSl, wFld, wIsi, wCall, wBm, wApp, wMeth, wMethK, wNew, wNil, wCons, woN, woS, wgN, wgSub, wgTup, wgStar, wgNil, wgCons, wT, wYes, wLc, wIt, wRng1, wRng2, wsFor, wipeE, Bi.run, Bm.run, Bm.ty, List.getElem?_cons_zero, List.getElem?_cons_succ, List.set_cons_zero, List.set_cons_succ, Option.some.injEq, exists_eq_left', tru_bl, List.append_nil]
  refine cells_max ⟨by decide, by decide⟩ ⟨by decide, by decide⟩ fun e e0 e1 => ⟨by omega, by omega, ?_⟩
  refine forW_by (fun _ ρ S' => ∃ o1 o2 o3 o4 o5 o6 o7 o8 o9 o10, ρ = [some (.frz (ns.map .int)), o1, o2, o3, o4, o5, o6, o7, o8, o9, o10]) ⟨_, _, _, _, _, _, _, _, _, _, rfl⟩ (fun _ _ _ _ => trivial) (fun i x ρ S' ei z => ?_) (fun ρ S' z => ?_) (mono_denS W _)
  · obtain ⟨o1, o2, o3, o4, o5, o6, o7, o8, o9, o10, rfl⟩ := z
    obtain ⟨rfl, hi⟩ := rng_mem ei
    refine ⟨_, bd_nm _ _ _ _, ?_⟩
    simp only [wLc2, wDc, wSk, shR, wZip, wsAug, wD2, denS, den, denA, denI, denO, denT, denG, denGs, wsSeq, wsN, wsIf, wsR, wsX, wsAsg, wsFld, wsBrk, wsCnt, wVar, wC, wTup, wLst, wDisp, wDict0, wOp, wChain, wAnd, wOr, wNot, wIf, wSl, wFld, wIsi, wCall, wBm, wApp, wMeth, wMethK, wNew, wNil, wCons, woN, woS, wgN, wgSub, wgTup, wgStar, wgNil, wgCons, wT, wYes, wLc, wIt, wRng1, wRng2, wsFor, wipeE, Bi.run, Bm.run, Bm.ty, List.getElem?_cons_zero, List.getElem?_cons_succ, List.set_cons_zero, List.set_cons_succ, Option.some.injEq, exists_eq_left', tru_bl, List.append_nil, Int.zero_add]
    exact law2_cell C (by omega) fun S' o2 o3 o4 o5 o6 o7 o8 o9 o10 => ⟨_, _, _, _, _, _, _, _, _, _, rfl⟩
  · obtain ⟨o1, o2, o3, o4, o5, o6, o7, o8, o9, o10, rfl⟩ := z
    simp only [b_law_k02_1, wLc2, wDc, wSk, shR, wZip, wsAug, wD2, denS, den, denA, denI, denO, denT, denG, denGs, wsSeq, wsN, wsIf, wsR, wsX, wsAsg, wsFld, wsBrk, wsCnt, wVar, wC, wTup, wLst, wDisp, wDict0, wOp, wChain, wAnd, wOr, wNot, wIf, wSl, wFld, wIsi, wCall, wBm, wApp, wMeth, wMethK, wNew, wNil, wCons, woN, woS, wgN, wgSub, wgTup, wgStar, wgNil, wgCons, wT, wYes, wLc, wIt, wRng1, wRng2, wsFor, wipeE, Bi.run, Bm.run, Bm.ty, List.getElem?_cons_zero, List.getElem?_cons_succ, List.set_cons_zero, List.set_cons_succ, Option.some.injEq, exists_eq_left', tru_bl, List.append_nil]
    exact q _ _ rfl
end TR
set_option Elab.async false
set_option linter.all false
set_option maxRecDepth 100000
set_option maxHeartbeats 2000000
/-! TB3: bodies. -/
namespace TR
open PySem PySem.Spec L2
open PyProof.Rows hiding St
/-! law_k03 -/
def x_law_k03_0l_2l_6_e0 : E := (.tup (.cons (.var 10) (.cons (.var 10) .nil)))
def b_law_k03_1 : S := .cons (.ret (.c (.bl true))) .nil
def b_law_k03_0l_2l_8 : S := .cons (.ite (.not (.app 21 [] (.cons (.app 30 [] (.cons (.var 6) (.cons (.var 9) .nil))) (.cons (.app 31 [] (.cons (.var 6) (.cons (.var 9) .nil))) .nil)))) (.cons (.ret (.c (.bl false))) .nil) .nil) .nil
def b_law_k03_0l_2l_7 : S := .cons (.ite (.or (.not (.app 21 [] (.cons (.app 30 [] (.cons (.var 6) (.cons (.tup .nil) .nil))) (.cons (.var 6) .nil)))) (.not (.app 21 [] (.cons (.app 30 [] (.cons (.var 6) (.cons (.var 5) .nil))) (.cons (.var 6) .nil))))) (.cons (.ret (.c (.bl false))) .nil) .nil) b_law_k03_0l_2l_8
def b_law_k03_0l_2l_6 : S := .cons (.asg (.nm 5) (.bi .tuple (.cons (.lc (.w (.app 27 [] (.cons (.var 6) .nil))) (.nm 10) .nil x_law_k03_0l_2l_6_e0 [10]) .nil))) b_law_k03_0l_2l_7
def b_law_k03_0l_2l_5 : S := .cons (.ite (.not (.app 21 [] (.cons (.app 30 [] (.cons (.app 30 [] (.cons (.var 7) (.cons (.var 8) .nil))) (.cons (.var 9) .nil))) (.cons (.app 30 [] (.cons (.var 7) (.cons (.app 32 [] (.cons (.var 8) (.cons (.var 9) .nil))) .nil))) .nil)))) (.cons (.ret (.c (.bl false))) .nil) .nil) b_law_k03_0l_2l_6
def b_law_k03_0l_2l_4 : S := .cons (.ite (.not (.app 21 [] (.cons (.app 30 [] (.cons (.var 6) (.cons (.rev (.var 8)) .nil))) (.cons (.app 31 [] (.cons (.var 6) (.cons (.var 8) .nil))) .nil)))) (.cons (.ret (.c (.bl false))) .nil) .nil) b_law_k03_0l_2l_5
def b_law_k03_0l_2l_3 : S := .cons (.ite (.not (.app 21 [] (.cons (.app 30 [] (.cons (.var 6) (.cons (.var 8) .nil))) (.cons (.app 31 [] (.cons (.var 6) (.cons (.var 8) .nil))) .nil)))) (.cons (.ret (.c (.bl false))) .nil) .nil) b_law_k03_0l_2l_4
def b_law_k03_0l_2l_2 : S := .cons (.asg (.tup 2 (.cons (.nm 8) (.cons (.nm 9) .nil))) (.tup (.cons (.app 28 [] (.cons (.var 2) (.cons (.var 3) (.cons (.var 6) .nil)))) (.cons (.app 28 [] (.cons (.var 2) (.cons (.var 3) (.cons (.var 6) .nil)))) .nil)))) b_law_k03_0l_2l_3
def b_law_k03_0l_2l_1 : S := .cons (.ite (.not (.app 21 [] (.cons (.app 26 [] (.cons (.var 6) .nil)) (.cons (.bi .tuple (.cons (.bi .sorted (.cons (.app 27 [] (.cons (.var 6) .nil)) .nil)) .nil)) .nil)))) (.cons (.ret (.c (.bl false))) .nil) .nil) b_law_k03_0l_2l_2
def b_law_k03_0l_2l_0 : S := .cons (.asg (.tup 2 (.cons (.nm 6) (.cons (.nm 7) .nil))) (.tup (.cons (.app 6 [] (.cons (.var 2) (.cons (.var 3) (.cons (.c (.int 2)) .nil)))) (.cons (.app 6 [] (.cons (.var 2) (.cons (.var 3) (.cons (.c (.int 1)) .nil)))) .nil)))) b_law_k03_0l_2l_1
def b_law_k03_0l_2 : S := .cons (.for_ (.rng1 (.c (.int 6))) (.nm 4) b_law_k03_0l_2l_0) .nil
def b_law_k03_0l_1 : S := .cons (.asg (.nm 3) (.app 5 [] (.cons (.var 2) (.cons (.new (tx "Book") 3 [] .nil) .nil)))) b_law_k03_0l_2
def b_law_k03_0l_0 : S := .cons (.asg (.nm 2) (.app 1 [] (.cons (.app 2 [] (.cons (.var 0) (.cons (.var 1) .nil))) .nil))) b_law_k03_0l_1
def b_law_k03_0 : S := .cons (.for_ (.rng1 (.bi .max (.cons (.c (.int 1)) (.cons (.bi .min (.cons (.bi .len (.cons (.var 0) .nil)) (.cons (.c (.int 10)) .nil))) .nil)))) (.nm 1) b_law_k03_0l_0) b_law_k03_1
/-! variables -/
def b_variables_0 : S := .cons (.ret (.bi .tuple (.cons (.sk .sorted (.w (.app 25 [] (.cons (.var 0) .nil))) (.nm 1) .nil (.var 1) [1]) .nil))) .nil
/-! law_gathered -/
def x_law_gathered_2l_0_c0 : E := (.w (.cmp .NotIn (.var 3) (.var 1)))
def x_law_gathered_2l_0_e0 : E := (.var 3)
def b_law_gathered_3 : S := .cons (.ret (.var 1)) .nil
def b_law_gathered_2l_0 : S := .cons (.asg (.nm 1) (.bin .Add (.var 1) (.lc (.w (.app 27 [] (.cons (.var 2) .nil))) (.nm 3) x_law_gathered_2l_0_c0 x_law_gathered_2l_0_e0 [3]))) .nil
def b_law_gathered_2 : S := .cons (.for_ (.w (.sl (.var 0) (.w (.c (.int 1))) .nil)) (.nm 2) b_law_gathered_2l_0) b_law_gathered_3
def b_law_gathered_1 : S := .cons (.asg (.nm 1) (.lst .nil)) b_law_gathered_2
def b_law_gathered_0 : S := .cons (.ite (.isi .str (.var 0)) (.cons (.ret (.lst (.cons (.var 0) .nil))) .nil) .nil) b_law_gathered_1
/-! law_pairs -/
def x_law_pairs_2l_1_e0 : E := (.var 7)
def b_law_pairs_3 : S := .cons (.ret (.bi .tuple (.cons (.var 4) .nil))) .nil
def b_law_pairs_2l_1 : S := .cons (.ite (.cmp .NotIn (.var 6) (.lc (.w (.var 4)) (.tup 2 (.cons (.nm 7) (.cons (.nm 8) .nil))) .nil x_law_pairs_2l_1_e0 [7, 8])) (.cons (.x (.bm .append (.var 4) (.cons (.tup (.cons (.var 6) (.cons (.app 6 [] (.cons (.var 0) (.cons (.var 1) (.cons (.c (.int 1)) .nil)))) .nil))) .nil))) .nil) .nil) .nil
def b_law_pairs_2l_0 : S := .cons (.asg (.nm 6) (.ix (.var 3) (.app 12 [] (.cons (.var 0) (.cons (.bi .len (.cons (.var 3) .nil)) .nil))))) b_law_pairs_2l_1
def b_law_pairs_2 : S := .cons (.for_ (.rng1 (.app 12 [] (.cons (.var 0) (.cons (.c (.int 5)) .nil)))) (.nm 5) b_law_pairs_2l_0) b_law_pairs_3
def b_law_pairs_1 : S := .cons (.asg (.nm 4) (.lst .nil)) b_law_pairs_2
def b_law_pairs_0 : S := .cons (.asg (.nm 3) (.bin .Add (.app 27 [] (.cons (.var 2) .nil)) (.sl (.app 11 [] (.cons (.var 0) .nil)) .nil (.w (.c (.int 2)))))) b_law_pairs_1
/-! put_kinds -/
def b_put_kinds_0 : S := .cons (.ret (.app 29 [] (.cons (.var 0) (.cons (.dc (.w (.var 1)) (.tup 2 (.cons (.nm 2) (.cons (.nm 3) .nil))) .nil (.var 2) (.var 3) [2, 3]) .nil)))) .nil
/-! law_kind_put -/
def x_law_kind_put_0t_0_c0 : E := (.w (.cmp .Eq (.var 3) (.var 0)))
def x_law_kind_put_0t_0_e0 : E := (.var 4)
def x_law_kind_put_1_e0 : E := (.app 31 [] (.cons (.var 5) (.cons (.var 1) .nil)))
def b_law_kind_put_1 : S := .cons (.ret (.bin .Add (.tup (.cons (.ix (.var 0) (.c (.int 0))) .nil)) (.bi .tuple (.cons (.lc (.w (.sl (.var 0) (.w (.c (.int 1))) .nil)) (.nm 5) .nil x_law_kind_put_1_e0 [5]) .nil)))) .nil
def b_law_kind_put_0t_1 : S := .cons (.ret (.ite (.cmp .NotEq (.var 2) (.lst .nil)) (.ix (.var 2) (.c (.int 0))) (.var 0))) .nil
def b_law_kind_put_0t_0 : S := .cons (.asg (.nm 2) (.lc (.w (.var 1)) (.tup 2 (.cons (.nm 3) (.cons (.nm 4) .nil))) x_law_kind_put_0t_0_c0 x_law_kind_put_0t_0_e0 [3, 4])) b_law_kind_put_0t_1
def b_law_kind_put_0 : S := .cons (.ite (.isi .str (.var 0)) b_law_kind_put_0t_0 .nil) b_law_kind_put_1
/-! law_behind -/
def x_law_behind_0_e0 : E := (.var 4)
def x_law_behind_1_e0 : E := (.tup (.cons (.var 4) (.cons (.app 31 [] (.cons (.var 5) (.cons (.var 1) .nil))) .nil)))
def x_law_behind_2_c0 : E := (.w (.cmp .NotIn (.var 4) (.var 2)))
def x_law_behind_2_e0 : E := (.tup (.cons (.var 4) (.cons (.var 5) .nil)))
def b_law_behind_2 : S := .cons (.ret (.bi .tuple (.cons (.bin .Add (.var 3) (.lc (.w (.var 1)) (.tup 2 (.cons (.nm 4) (.cons (.nm 5) .nil))) x_law_behind_2_c0 x_law_behind_2_e0 [4, 5])) .nil))) .nil
def b_law_behind_1 : S := .cons (.asg (.nm 3) (.lc (.w (.var 0)) (.tup 2 (.cons (.nm 4) (.cons (.nm 5) .nil))) .nil x_law_behind_1_e0 [4, 5])) b_law_behind_2
def b_law_behind_0 : S := .cons (.asg (.nm 2) (.lc (.w (.var 0)) (.tup 2 (.cons (.nm 4) (.cons (.nm 5) .nil))) .nil x_law_behind_0_e0 [4, 5])) b_law_behind_1
/-! names_in -/
def b_names_in_1 : S := .cons (.ret (.lc2 (.w (.sl (.var 0) (.w (.c (.int 1))) .nil)) (.nm 1) .nil (.w (.app 25 [] (.cons (.var 1) .nil))) (.nm 2) .nil (.var 2) [1, 2])) .nil
def b_names_in_0 : S := .cons (.ite (.isi .str (.var 0)) (.cons (.ret (.lst (.cons (.var 0) .nil))) .nil) .nil) b_names_in_1
/-! exchanged -/
def x_exchanged_2_e0 : E := (.app 29 [] (.cons (.var 4) (.cons (.var 1) .nil)))
def b_exchanged_2 : S := .cons (.ret (.bin .Add (.tup (.cons (.var 2) .nil)) (.bi .tuple (.cons (.lc (.w (.var 3)) (.nm 4) .nil x_exchanged_2_e0 [4]) .nil)))) .nil
def b_exchanged_1 : S := .cons (.asg (.star 2 1 (.cons (.nm 2) (.cons (.nm 3) .nil))) (.var 0)) b_exchanged_2
def b_exchanged_0 : S := .cons (.ite (.isi .str (.var 0)) (.cons (.ret (.d2 .get (.var 1) (.var 0) (.var 0))) .nil) .nil) b_exchanged_1
end TR
set_option Elab.async false
set_option linter.all false
set_option maxRecDepth 100000
set_option maxHeartbeats 2000000
/-! TK17: kinds by their names: variables. -/
namespace TR
open PySem PySem.Spec L2
open PyProof.Rows hiding St

mutual
/-- a kind by the look of its names -/
def kn : T → Bool
  | .str x => nameOk x
  | .tup ts => knU ts
  | .non => false
  | .bl _ => false
  | .int _ => false
  | .frz _ => false
  | .obj _ => false
def knU : List T → Bool
  | [] => false
  | h :: ps => (match h with
    | .str n => nameOk n
    | _ => false) && (decide (ps.length ≤ 3) && knTs ps)
def knTs : List T → Bool
  | [] => true
  | t :: ts => kn t && knTs ts
end
mutual
def namesT : T → List (List Nat)
  | .str x => [x]
  | .tup ts => namesU ts
  | .non => []
  | .bl _ => []
  | .int _ => []
  | .frz _ => []
  | .obj _ => []
def namesU : List T → List (List Nat)
  | [] => []
  | _ :: ps => namesTs ps
def namesTs : List T → List (List Nat)
  | [] => []
  | t :: ts => namesT t ++ namesTs ts
end
mutual
def gathT : T → List (List Nat)
  | .str x => [x]
  | .tup ts => gathU ts
  | .non => []
  | .bl _ => []
  | .int _ => []
  | .frz _ => []
  | .obj _ => []
def gathU : List T → List (List Nat)
  | [] => []
  | _ :: ps => gathTs [] ps
def gathTs (acc : List (List Nat)) : List T → List (List Nat)
  | [] => acc
  | t :: ts => gathTs (acc ++ (gathT t).filter fun x => !acc.any fun y => decide (y = x)) ts
end
mutual
/-- names exchanged -/
def putT (f : List Nat → T) : T → T
  | .str x => f x
  | .tup ts => .tup (putU f ts)
  | .non => .non
  | .bl b => .bl b
  | .int i => .int i
  | .frz xs => .frz xs
  | .obj i => .obj i
def putU (f : List Nat → T) : List T → List T
  | [] => []
  | h :: ps => h :: putTs f ps
def putTs (f : List Nat → T) : List T → List T
  | [] => []
  | t :: ts => putT f t :: putTs f ts
end
theorem knTs_all : ∀ ts : List T, knTs ts = ts.all kn
  | [] => rfl
  | t :: ts => by rw [List.all_cons, ← knTs_all ts]; simp only [knTs]
theorem namesTs_flat : ∀ ts : List T, namesTs ts = (ts.map namesT).flatten
  | [] => rfl
  | t :: ts => by rw [List.map_cons, List.flatten_cons, ← namesTs_flat ts]; simp only [namesTs]
theorem putTs_map (f : List Nat → T) : ∀ ts : List T, putTs f ts = ts.map (putT f)
  | [] => rfl
  | t :: ts => by rw [List.map_cons, ← putTs_map f ts]; simp only [putTs]
theorem kn_cases {t : T} (h : kn t = true) : (∃ x, t = .str x ∧ nameOk x = true) ∨ ∃ n ps, t = .tup (.str n :: ps) ∧ nameOk n = true ∧ ps.length ≤ 3 ∧ ∀ p ∈ ps, kn p = true := by
  cases t with
  | str x => exact .inl ⟨x, rfl, by simpa only [kn] using h⟩
  | tup ts =>
    cases ts with
    | nil => simp [kn, knU] at h
    | cons a ps =>
      cases a with
      | str n =>
        simp only [kn, knU, Bool.and_eq_true, decide_eq_true_eq] at h
        refine .inr ⟨n, ps, rfl, h.1, h.2.1, fun p hp => ?_⟩
        have h2 := h.2.2
        rw [knTs_all] at h2
        exact List.all_eq_true.mp h2 p hp
      | _ => simp [kn, knU] at h
  | _ => simp [kn] at h
theorem kn_tup {n : List Nat} {ps : List T} (h1 : nameOk n = true) (h2 : ps.length ≤ 3) (h3 : ∀ p ∈ ps, kn p = true) : kn (.tup (.str n :: ps)) = true := by
  simp only [kn, knU, Bool.and_eq_true, decide_eq_true_eq]
  refine ⟨h1, h2, ?_⟩
  rw [knTs_all]
  exact List.all_eq_true.mpr h3
theorem kn_ind {P : T → Prop} (h1 : ∀ x, nameOk x = true → P (.str x)) (h2 : ∀ n ps, nameOk n = true → ps.length ≤ 3 → (∀ p ∈ ps, kn p = true) → (∀ p ∈ ps, P p) → P (.tup (.str n :: ps))) : ∀ {t : T}, kn t = true → P t := by
  have go : ∀ (d : Nat) (t : T), dep t ≤ d → kn t = true → P t := by
    intro d
    induction d with
    | zero =>
      intro t hd h
      rcases kn_cases h with ⟨x, rfl, hx⟩ | ⟨n, ps, rfl, _⟩
      · exact h1 x hx
      · exact absurd hd (by simp only [dep]; omega)
    | succ d ih =>
      intro t hd h
      rcases kn_cases h with ⟨x, rfl, hx⟩ | ⟨n, ps, rfl, hn, hl, hp⟩
      · exact h1 x hx
      · refine h2 n ps hn hl hp fun p hm => ih p ?_ (hp p hm)
        have := dep_part (ts := .str n :: ps) (List.mem_cons_of_mem _ hm)
        omega
  exact fun {t} h => go (dep t) t (Nat.le_refl _) h
theorem kn_of_kind {n : Nat} {ws : Wn} (hws : WnOk n ws) {t : T} (h : kindT ws t = true) : kn t = true := by
  refine kind_ind (P := fun t => kn t = true) (fun x hx => by simpa only [kn] using hx) (fun m v ps e hl hp ih => ?_) h
  obtain ⟨h1, h2, h3⟩ := wn_name hws e
  exact kn_tup h1 (by omega) ih
theorem kn_wf {S : Sta} {t : T} (h : kn t = true) : wf S t = true := by
  refine kn_ind (P := fun t => wf S t = true) (fun x hx => wf_name hx) (fun n ps hn hl hp ih => ?_) h
  rw [wf_tup]
  refine ⟨by rw [List.length_cons]; omega, wfs_of fun t ht => ?_⟩
  rcases List.mem_cons.mp ht with rfl | ht
  · exact wf_name hn
  · exact ih t ht
theorem kn_gr {t : T} (h : kn t = true) : gr t = true := by
  refine kn_ind (P := fun t => gr t = true) (fun x hx => gr_name hx) (fun n ps hn hl hp ih => ?_) h
  simp only [gr, grs, Bool.and_eq_true]
  exact ⟨gr_name hn, grs_of ih⟩
theorem kn_st {t : T} (h : kn t = true) : stT t = true := by
  refine kn_ind (P := fun t => stT t = true) (fun x hx => rfl) (fun n ps hn hl hp ih => ?_) h
  simp only [stT, stTs, Bool.true_and]
  rw [stTs_all]
  exact List.all_eq_true.mpr ih
theorem names_len {t : T} (h : kn t = true) : ∀ d, dep t ≤ d → (namesT t).length ≤ 4 ^ d := by
  refine kn_ind (P := fun t => ∀ d, dep t ≤ d → (namesT t).length ≤ 4 ^ d) (fun x hx d hd => ?_) (fun n ps hn hl hp ih d hd => ?_) h
  · have h4 : 1 ≤ 4 ^ d := Nat.one_le_pow _ _ (by decide)
    simpa only [namesT, List.length_singleton] using h4
  · cases d with
    | zero => exact absurd hd (by simp only [dep]; omega)
    | succ d =>
      simp only [namesT, namesU, namesTs_flat, List.length_flatten, List.map_map]
      have := sum_le (f := List.length ∘ namesT) (B := 4 ^ d) (l := ps) fun p hm => ih p hm d (by
        have := dep_part (ts := .str n :: ps) (List.mem_cons_of_mem _ hm)
        omega)
      have h3 : ps.length * 4 ^ d ≤ 3 * 4 ^ d := Nat.mul_le_mul_right _ hl
      rw [Nat.pow_succ]
      omega
theorem names_ok {t : T} (h : kn t = true) : ∀ x ∈ namesT t, nameOk x = true := by
  refine kn_ind (P := fun t => ∀ x ∈ namesT t, nameOk x = true) (fun x hx y hy => ?_) (fun n ps hn hl hp ih x hx => ?_) h
  · simp only [namesT, List.mem_singleton] at hy
    subst hy
    exact hx
  · simp only [namesT, namesU, namesTs_flat, List.mem_flatten, List.mem_map] at hx
    obtain ⟨l, ⟨p, hp', rfl⟩, hx⟩ := hx
    exact ih p hp' x hx
/-! ### gathered -/
abbrev nin (acc : List (List Nat)) : List Nat → Bool := fun x => !acc.any fun y => decide (y = x)
theorem nin_iff {acc : List (List Nat)} {x : List Nat} : nin acc x = true ↔ x ∉ acc := by
  unfold nin
  rw [Bool.not_eq_true']
  constructor
  · intro h m
    rw [List.any_eq_true.mpr ⟨x, m, decide_eq_true rfl⟩] at h
    cases h
  · intro h
    cases e : acc.any fun y => decide (y = x) with
    | false => rfl
    | true =>
      obtain ⟨y, hy, e⟩ := List.any_eq_true.mp e
      exact absurd (of_decide_eq_true e ▸ hy) h
theorem gathTs_spec : ∀ (ts : List T) (acc : List (List Nat)), acc.Nodup → (∀ t ∈ ts, (gathT t).Nodup) → (gathTs acc ts).Nodup ∧ ∀ x, x ∈ gathTs acc ts ↔ x ∈ acc ∨ ∃ t ∈ ts, x ∈ gathT t
  | [], acc, h, _ => ⟨h, fun x => ⟨.inl, fun z => z.elim id fun ⟨t, ht, _⟩ => absurd ht List.not_mem_nil⟩⟩
  | t :: ts, acc, h, h2 => by
    have nd : (acc ++ (gathT t).filter (nin acc)).Nodup := by
      rw [List.nodup_append]
      refine ⟨h, (h2 t List.mem_cons_self).filter _, fun x hx y hy e => ?_⟩
      subst e
      exact nin_iff.mp (List.mem_filter.mp hy).2 hx
    obtain ⟨a, b⟩ := gathTs_spec ts (acc ++ (gathT t).filter (nin acc)) nd fun u hu => h2 u (List.mem_cons_of_mem _ hu)
    simp only [gathTs]
    refine ⟨a, fun x => (b x).trans ⟨fun z => ?_, fun z => ?_⟩⟩
    · rcases z with z | ⟨u, hu, z⟩
      · rcases List.mem_append.mp z with z | z
        · exact .inl z
        · exact .inr ⟨t, List.mem_cons_self, (List.mem_filter.mp z).1⟩
      · exact .inr ⟨u, List.mem_cons_of_mem _ hu, z⟩
    · by_cases m : x ∈ acc
      · exact .inl (List.mem_append_left _ m)
      · rcases z with z | ⟨u, hu, z⟩
        · exact absurd z m
        · rcases List.mem_cons.mp hu with rfl | hu
          · exact .inl (List.mem_append_right _ (List.mem_filter.mpr ⟨z, nin_iff.mpr m⟩))
          · exact .inr ⟨u, hu, z⟩
theorem gath_spec {t : T} (h : kn t = true) : (gathT t).Nodup ∧ ∀ x, x ∈ gathT t ↔ x ∈ namesT t := by
  refine kn_ind (P := fun t => (gathT t).Nodup ∧ ∀ x, x ∈ gathT t ↔ x ∈ namesT t) (fun x hx => ?_) (fun n ps hn hl hp ih => ?_) h
  · simp [gathT, namesT]
  · obtain ⟨a, b⟩ := gathTs_spec ps [] List.nodup_nil fun p hm => (ih p hm).1
    refine ⟨by simpa only [gathT, gathU] using a, fun x => ?_⟩
    simp only [gathT, gathU, namesT, namesU, namesTs_flat, List.mem_flatten, List.mem_map]
    rw [b x]
    constructor
    · rintro (z | ⟨p, hp', z⟩)
      · exact absurd z List.not_mem_nil
      · exact ⟨_, ⟨p, hp', rfl⟩, ((ih p hp').2 x).mp z⟩
    · rintro ⟨l, ⟨p, hp', rfl⟩, z⟩
      exact .inr ⟨p, hp', ((ih p hp').2 x).mpr z⟩
theorem nodup_le {α : Type} [DecidableEq α] {a b : List α} (h : a.Nodup) (s : ∀ x ∈ a, x ∈ b) : a.length ≤ b.length := by
  induction a generalizing b with
  | nil => exact Nat.zero_le _
  | cons x xs ih =>
    obtain ⟨h1, h2⟩ := List.nodup_cons.mp h
    have hb := s x List.mem_cons_self
    have := ih h2 (b := b.erase x) fun y hy => (List.mem_erase_of_ne (show y ≠ x from fun e => h1 (by rw [← e]; exact hy))).mpr (s y (List.mem_cons_of_mem _ hy))
    rw [List.length_erase_of_mem hb] at this
    have := List.length_pos_of_mem hb
    rw [List.length_cons]
    omega
theorem gath_len {t : T} (h : kn t = true) (d : Nat) (hd : dep t ≤ d) : (gathT t).length ≤ 4 ^ d :=
  Nat.le_trans (nodup_le (gath_spec h).1 fun x hx => ((gath_spec h).2 x).mp hx) (names_len h d hd)
/-! ### texts in their order -/
theorem ltc_le {a b : List Nat} : ltCps b a = false ↔ a ≤ b := by
  rw [ltCps_eq, decide_eq_false_iff_not, List.not_lt]
theorem ltc_total {a b : List Nat} (h1 : ltCps a b = false) (h2 : ltCps b a = false) : a = b := List.le_antisymm (ltc_le.mp h2) (ltc_le.mp h1)
theorem ltc_trans {a b c : List Nat} (h1 : ltCps b a = false) (h2 : ltCps c b = false) : ltCps c a = false := ltc_le.mpr (List.le_trans (ltc_le.mp h1) (ltc_le.mp h2))
theorem rising_pair : ∀ (ys : List Str) (x : Str), risingS x ys = true → (x :: ys).Pairwise fun a b => ltCps b.cps.toList a.cps.toList = false
  | [], x, _ => by simp
  | y :: ys, x, h => by
    rw [risingS, Bool.and_eq_true] at h
    have ih := rising_pair ys y h.2
    have h1 : ltCps y.cps.toList x.cps.toList = false := by simpa using h.1
    refine List.pairwise_cons.mpr ⟨fun z hz => ?_, ih⟩
    rcases List.mem_cons.mp hz with rfl | hz
    · exact h1
    · exact ltc_trans h1 ((List.pairwise_cons.mp ih).1 z hz)
theorem sorted_pair {ys : List (List Nat)} (h : sortedS (ys.map mkS) = true) : ys.Pairwise fun a b => ltCps b a = false := by
  cases ys with
  | nil => exact .nil
  | cons x ys =>
    have := rising_pair (ys.map mkS) (mkS x) h
    rw [← List.map_cons (f := mkS), List.pairwise_map] at this
    refine this.imp fun {a b} q => ?_
    rw [mkS_cps, mkS_cps] at q
    exact q
theorem sorted_uniq {xs ys : List (List Nat)} (p : xs.Perm ys) (h1 : sortedS (xs.map mkS) = true) (h2 : sortedS (ys.map mkS) = true) : xs = ys :=
  p.eq_of_pairwise (fun a b _ _ q r => ltc_total r q) (sorted_pair h1) (sorted_pair h2)
end TR
set_option Elab.async false
set_option linter.all false
set_option maxRecDepth 100000
set_option maxHeartbeats 2000000
/-! TK18: the walks of names_in, variables and the gathering by the law. -/
namespace TR
open PySem PySem.Spec L2
open PyProof.Rows hiding St

/-- each item of the first clause tells a list, each of whose items is told -/
theorem lc2W_flat {g : Sta → Prop} {p p1 : Pat} {wi1 : Wi} {we : Wp} {own1 : List Nat} {ρ0 : Ev} {R : List T → Sta → Prop} (f : T → List T) (Inv : Sta → Prop) (hg : ∀ S, Inv S → g S) (mi : MonoI wi1) (me : MonoW we) :
    ∀ (xs acc : List T) (S : Sta), acc.length + (xs.map f).flatten.length ≤ sizeLine → Inv S →
      (∀ x S, x ∈ xs → Inv S → ∃ ρ1, bindP p x S ρ0 = some ρ1 ∧ wi1 ρ1 S fun ys g1 S1 => ys = f x ∧ ∃ Inv1 : Sta → Prop, Inv1 S1 ∧ (∀ S', Inv1 S' → Inv S' ∧ g1 S') ∧
        ∀ y S', y ∈ ys → Inv1 S' → ∃ ρ2, bindP p1 y S' (wipeE ρ1 own1) = some ρ2 ∧ we ρ2 S' fun z S2 => z = y ∧ Inv1 S2) →
      (∀ S, Inv S → R (acc ++ (xs.map f).flatten) S) → lc2W g p wYes wi1 p1 wYes we own1 ρ0 R xs acc S
  | [], acc, S, _, h, _, hR => ⟨hg S h, by simpa using hR S h⟩
  | x :: xs, acc, S, hl, h, hs, hR => by
    obtain ⟨ρ1, hb, q⟩ := hs x S List.mem_cons_self h
    rw [List.map_cons, List.flatten_cons, List.length_append] at hl
    refine ⟨hg S h, ρ1, hb, ?_⟩
    show wi1 ρ1 S _
    refine mi _ _ _ _ (fun ys g1 S1 q => ?_) q
    obtain ⟨rfl, Inv1, h1, hg1, step⟩ := q
    have go : ∀ (zs : List T) (a : List T) (S' : Sta), (∀ z ∈ zs, z ∈ f x) → a.length + zs.length + (xs.map f).flatten.length ≤ sizeLine → Inv1 S' → (a ++ zs = acc ++ f x) → lcW g1 p1 wYes we (wipeE ρ1 own1) (fun acc' S4 => lc2W g p wYes wi1 p1 wYes we own1 ρ0 R xs acc' S4) zs a S' := by
      intro zs
      induction zs with
      | nil =>
        intro a S' _ hl' h' e
        rw [List.append_nil] at e
        refine ⟨(hg1 S' h').2, lc2W_flat f Inv hg mi me xs a S' (by simpa using hl') (hg1 S' h').1 (fun y S hy => hs y S (List.mem_cons_of_mem _ hy)) fun S2 h2 => ?_⟩
        have := hR S2 h2
        rw [List.map_cons, List.flatten_cons, ← List.append_assoc, ← e] at this
        exact this
      | cons z zs ih =>
        intro a S' hm hl' h' e
        rw [List.length_cons] at hl'
        obtain ⟨ρ2, hb2, q2⟩ := step z S' (hm z List.mem_cons_self) h'
        refine ⟨(hg1 S' h').2, ρ2, hb2, ?_⟩
        show we ρ2 S' _
        refine me _ _ _ _ (fun y S2 q => ?_) q2
        obtain ⟨rfl, q⟩ := q
        refine ⟨by omega, ih _ S2 (fun w hw => hm w (List.mem_cons_of_mem _ hw)) (by rw [List.length_append, List.length_singleton]; omega) q (by rw [List.append_assoc]; exact e)⟩
    exact go (f x) acc S1 (fun z hz => hz) (by omega) h1 rfl
abbrev stL (zs : List (List Nat)) : List T := zs.map T.str
/-- need: dep t + 1 -/
def co_names_in (k : Nat) : Co := Co.of 1 (A := T) (fun t => [t]) (fun t S => kn t = true ∧ (namesT t).length ≤ 4000 ∧ dep t + 1 ≤ k) (fun t S r S' => Ex S S' ∧ ∃ l, r = .obj l ∧ S'[l]? = some (.lst (stL (namesT t))))
theorem names_part {n : T} {ps : List T} {p : T} (h : p ∈ ps) : (namesT p).length ≤ (namesT (.tup (n :: ps))).length := by
  simp only [namesT, namesU, namesTs_flat]
  induction ps with
  | nil => cases h
  | cons a r ih =>
    rw [List.map_cons, List.flatten_cons, List.length_append]
    rcases List.mem_cons.mp h with rfl | h
    · omega
    · have := ih h
      omega
theorem st_names_in {W : Wd} {k : Nat} (h25 : W.Γ 25 = co_names_in k) {t : T} {S : Sta} {Q : T → Sta → Prop} (hk : kn t = true) (h8 : (namesT t).length ≤ 4000) (hd : dep t ≤ k)
    (q : ∀ r S', (Ex S S' ∧ ∃ l, r = .obj l ∧ S'[l]? = some (.lst (stL (namesT t)))) → Q r S') : denS W b_names_in_0 (En0 Q) [some t, none, none] S := by
  simp only [b_names_in_0, wLc2, wDc, wSk, shR, wZip, wsAug, wD2, denS, den, denA, denI, denO, denT, denG, denGs, wsSeq, wsN, wsIf, wsR, wsX, wsAsg, wsFld, wsBrk, wsCnt, wVar, wC, wTup, wLst, wDisp, wDict0, wOp, wChain, wAnd, wOr, wNot, wIf, wSl, wFld, wIsi, wCall, wBm, wApp, wMeth, wMethK, wNew, wNil, wCons, woN, woS, wgN, wgSub, wgTup, wgStar, wgNil, wgCons, wT, wYes, wLc, wIt, wRng1, wRng2, wsFor, wipeE, Bi.run, Bm.run, Bm.ty, List.getElem?_cons_zero, List.getElem?_cons_succ, List.set_cons_zero, List.set_cons_succ, Option.some.injEq, exists_eq_left', tru_bl, List.append_nil]
  rcases kn_cases hk with ⟨x, rfl, hx⟩ | ⟨n, ps, rfl, hn, hl, hp⟩
  · refine ⟨.str, rfl, ?_⟩
    simp [isiB]
    refine ⟨by rw [sizeLine_val]; decide, q _ _ ⟨.app, _, rfl, ?_⟩⟩
    rw [get_new]
    rfl
  · refine ⟨.tuple, rfl, ?_⟩
    simp [isiB]
    simp only [b_names_in_1, wLc2, wDc, wSk, shR, wZip, wsAug, wD2, denS, den, denA, denI, denO, denT, denG, denGs, wsSeq, wsN, wsIf, wsR, wsX, wsAsg, wsFld, wsBrk, wsCnt, wVar, wC, wTup, wLst, wDisp, wDict0, wOp, wChain, wAnd, wOr, wNot, wIf, wSl, wFld, wIsi, wCall, wBm, wApp, wMeth, wMethK, wNew, wNil, wCons, woN, woS, wgN, wgSub, wgTup, wgStar, wgNil, wgCons, wT, wYes, wLc, wIt, wRng1, wRng2, wsFor, wipeE, Bi.run, Bm.run, Bm.ty, List.getElem?_cons_zero, List.getElem?_cons_succ, List.set_cons_zero, List.set_cons_succ, Option.some.injEq, exists_eq_left', tru_bl, List.append_nil, slG, cut_tail]
    have len := h8
    simp only [namesT, namesU, namesTs_flat] at len
    have e0 : (ps.map fun t => stL (namesT t)).flatten = stL ((ps.map namesT).flatten) := by
      simp [stL, List.map_flatten, List.map_map, Function.comp_def]
    refine iterW_tup (lc2W_flat (fun t => stL (namesT t)) (fun S' => Ex S S') (fun _ _ => trivial) (mono_denI W (.w (.app 25 [] (.cons (.var 1) .nil)))) (mono_den W (.var 2)) ps [] S ?_ .rfl' (fun y S1 hy x1 => ?_) (fun S1 x1 => ?_))
    · rw [e0, stL, List.length_map, sizeLine_val, List.length_nil]
      omega
    · refine ⟨_, bd_nm _ _ _ _, ?_⟩
      simp only [wLc2, wDc, wSk, shR, wZip, wsAug, wD2, denS, den, denA, denI, denO, denT, denG, denGs, wsSeq, wsN, wsIf, wsR, wsX, wsAsg, wsFld, wsBrk, wsCnt, wVar, wC, wTup, wLst, wDisp, wDict0, wOp, wChain, wAnd, wOr, wNot, wIf, wSl, wFld, wIsi, wCall, wBm, wApp, wMeth, wMethK, wNew, wNil, wCons, woN, woS, wgN, wgSub, wgTup, wgStar, wgNil, wgCons, wT, wYes, wLc, wIt, wRng1, wRng2, wsFor, wipeE, Bi.run, Bm.run, Bm.ty, List.getElem?_cons_zero, List.getElem?_cons_succ, List.set_cons_zero, List.set_cons_succ, Option.some.injEq, exists_eq_left', tru_bl, List.append_nil, h25]
      have hd2 := dep_part (ts := .str n :: ps) (List.mem_cons_of_mem _ hy)
      refine ⟨rfl, y, rfl, ⟨hp y hy, Nat.le_trans (names_part hy) h8, by omega⟩, fun r S2 z => ?_⟩
      obtain ⟨x2, l, rfl, e⟩ := z
      refine iterW_lst e ⟨rfl, fun S' => Ex S S' ∧ S'[l]? = some (.lst (stL (namesT y))), ⟨x1.trans' x2, e⟩, fun S' h => h, fun z S' hz h => ⟨_, bd_nm _ _ _ _, ?_⟩⟩
      exact ⟨z, rfl, rfl, h⟩
    · rw [List.nil_append, e0]
      refine q _ _ ⟨x1.trans' .app, _, rfl, ?_⟩
      rw [get_new]
      simp only [namesT, namesU, namesTs_flat]
/-! ### variables -/
theorem addS_eq (zs : List (List Nat)) (z : List Nat) : addS zs z = if nin zs z = true then zs ++ [z] else zs := by
  unfold addS
  show _ = if (!zs.any fun y => decide (y = z)) = true then _ else _
  cases zs.any fun y => decide (y = z) <;> rfl
theorem addS_fold : ∀ (xs acc : List (List Nat)), acc.Nodup → (xs.foldl addS acc).Nodup ∧ (∀ x, x ∈ xs.foldl addS acc ↔ x ∈ acc ∨ x ∈ xs) ∧ (xs.foldl addS acc).length ≤ acc.length + xs.length
  | [], acc, h => ⟨h, fun x => by simp, by simp⟩
  | y :: xs, acc, h => by
    rw [List.foldl_cons]
    by_cases m : nin acc y = true
    · have nd : (acc ++ [y]).Nodup := by
        rw [List.nodup_append]
        refine ⟨h, by simp, fun a ha b hb e => ?_⟩
        rw [List.mem_singleton] at hb
        subst hb
        subst e
        exact nin_iff.mp m ha
      rw [addS_eq, if_pos m]
      obtain ⟨a, b, c⟩ := addS_fold xs (acc ++ [y]) nd
      refine ⟨a, fun x => (b x).trans ?_, ?_⟩
      · rw [List.mem_append, List.mem_singleton, List.mem_cons, or_assoc]
      · rw [List.length_append, List.length_singleton] at c
        rw [List.length_cons]
        omega
    · rw [addS_eq, if_neg m]
      obtain ⟨a, b, c⟩ := addS_fold xs acc h
      have hy : y ∈ acc := Classical.byContradiction fun z => m (nin_iff.mpr z)
      refine ⟨a, fun x => (b x).trans ?_, ?_⟩
      · rw [List.mem_cons]
        exact ⟨fun z => z.elim .inl fun z => .inr (.inr z), fun z => z.elim .inl fun z => z.elim (fun e => .inl (e ▸ hy)) .inr⟩
      · rw [List.length_cons]
        omega
/-- the items of a list of texts, each once -/
theorem skW_strs {g : Sta → Prop} {p : Pat} {we : Wp} {ρ0 : Ev} {R : List (List Nat) → Sta → Prop} (Inv : Sta → Prop) (hg : ∀ S, Inv S → g S) (me : MonoW we) : ∀ (xs acc : List (List Nat)) (S : Sta), acc.Nodup → acc.length + xs.length + 1 < scanBound → Inv S →
    (∀ x S, x ∈ xs → Inv S → ∃ ρ1, bindP p (.str x) S ρ0 = some ρ1 ∧ we ρ1 S fun z S2 => z = .str x ∧ Inv S2) → (∀ S, Inv S → R (xs.foldl addS acc) S) → skW g p wYes we ρ0 R (stL xs) acc S
  | [], acc, S, _, _, h, _, hR => ⟨hg S h, hR S h⟩
  | x :: xs, acc, S, nd, hl, h, hs, hR => by
    obtain ⟨ρ1, hb, q⟩ := hs x S List.mem_cons_self h
    rw [List.length_cons] at hl
    refine ⟨hg S h, ρ1, hb, ?_⟩
    show we ρ1 S _
    refine me _ _ _ _ (fun y S2 q => ?_) q
    obtain ⟨rfl, q⟩ := q
    have one : [x].foldl addS acc = addS acc x := rfl
    have a1 := addS_fold [x] acc nd
    rw [one] at a1
    refine ⟨x, rfl, by omega, skW_strs Inv hg me xs (addS acc x) S2 a1.1 ?_ q (fun y S hy => hs y S (List.mem_cons_of_mem _ hy)) hR⟩
    have := a1.2.2
    rw [List.length_singleton] at this
    omega
def VarsOf (t : T) (ys : List (List Nat)) : Prop := ys.Nodup ∧ (∀ x, x ∈ ys ↔ x ∈ namesT t) ∧ sortedS (ys.map mkS) = true
/-- need: dep t + 2 -/
def co_variables (k : Nat) : Co := Co.of 1 (A := T) (fun t => [t]) (fun t S => kn t = true ∧ (namesT t).length ≤ 4000 ∧ dep t + 2 ≤ k) (fun t S r S' => Ex S S' ∧ ∃ ys, r = .tup (stL ys) ∧ VarsOf t ys)
theorem st_variables {W : Wd} {k : Nat} (h25 : W.Γ 25 = co_names_in k) {t : T} {S : Sta} {Q : T → Sta → Prop} (hk : kn t = true) (h8 : (namesT t).length ≤ 4000) (hd : dep t + 1 ≤ k)
    (q : ∀ r S', (Ex S S' ∧ ∃ ys, r = .tup (stL ys) ∧ VarsOf t ys) → Q r S') : denS W b_variables_0 (En0 Q) [some t, none] S := by
  simp only [b_variables_0, wLc2, wDc, wSk, shR, wZip, wsAug, wD2, denS, den, denA, denI, denO, denT, denG, denGs, wsSeq, wsN, wsIf, wsR, wsX, wsAsg, wsFld, wsBrk, wsCnt, wVar, wC, wTup, wLst, wDisp, wDict0, wOp, wChain, wAnd, wOr, wNot, wIf, wSl, wFld, wIsi, wCall, wBm, wApp, wMeth, wMethK, wNew, wNil, wCons, woN, woS, wgN, wgSub, wgTup, wgStar, wgNil, wgCons, wT, wYes, wLc, wIt, wRng1, wRng2, wsFor, wipeE, Bi.run, Bm.run, Bm.ty, List.getElem?_cons_zero, List.getElem?_cons_succ, List.set_cons_zero, List.set_cons_succ, Option.some.injEq, exists_eq_left', tru_bl, List.append_nil, h25]
  refine ⟨rfl, t, rfl, ⟨hk, h8, hd⟩, fun r S1 z => ?_⟩
  obtain ⟨x1, l, rfl, e⟩ := z
  have hb : (4000 : Nat) + 1 < scanBound := by decide +kernel
  refine iterW_lst e (skW_strs (fun S' => Ex S1 S' ∧ S'[l]? = some (.lst (stL (namesT t)))) (fun _ h => h.2) (mono_den W (.var 1)) (namesT t) [] S1 List.nodup_nil ?_ ⟨.rfl', e⟩ (fun x S' hx h => ⟨_, bd_nm _ _ _ _, ?_⟩) (fun S2 h => ?_))
  · rw [List.length_nil]
    omega
  · exact ⟨_, rfl, rfl, h⟩
  · intro ys hp hs
    obtain ⟨a, b, c⟩ := addS_fold (namesT t) [] List.nodup_nil
    refine gTuple_new (q _ _ ⟨(x1.trans' h.1).trans' .app, ys, rfl, hp.nodup_iff.mpr a, fun x => ?_, hs⟩)
    rw [hp.mem_iff, b x]
    simp
end TR
set_option Elab.async false
set_option linter.all false
set_option maxRecDepth 100000
set_option maxHeartbeats 2000000
/-! TK19: names gathered by the law; names exchanged by a dict. -/
namespace TR
open PySem PySem.Spec L2
open PyProof.Rows hiding St

/-- a comprehension that leaves some out -/
theorem lcW_fm {g : Sta → Prop} {p : Pat} {tt : Wt} {we : Wp} {ρ0 : Ev} {R : List T → Sta → Prop} {xs : List T} {S : Sta} (f : T → Bool) (h : T → T) (Inv : Sta → Prop) (h0 : Inv S) (hg : ∀ S, Inv S → g S) (hl : xs.length ≤ sizeLine) (mt : MonoT tt) (me : MonoW we)
    (hs : ∀ x S, x ∈ xs → Inv S → ∃ ρ1, bindP p x S ρ0 = some ρ1 ∧ tt ρ1 S fun b S2 => b = f x ∧ Inv S2 ∧ (b = true → we ρ1 S2 fun y S' => y = h x ∧ Inv S')) (he : ∀ S, Inv S → R ((xs.filter f).map h) S) : lcW g p tt we ρ0 R xs [] S := by
  refine lcW_by (fun i acc S => i ≤ xs.length ∧ acc = ((xs.take i).filter f).map h ∧ Inv S) ⟨Nat.zero_le _, rfl, h0⟩ (fun i acc S h => hg S h.2.2) (fun i x acc S e hI => ?_) (fun acc S hI => ?_) mt me
  · obtain ⟨hi, rfl, hI⟩ := hI
    obtain ⟨hlt, _⟩ := List.getElem?_eq_some_iff.mp e
    obtain ⟨ρ1, hb, q⟩ := hs x S (List.mem_of_getElem? e) hI
    refine ⟨ρ1, hb, mt _ _ _ _ (fun b S2 q => ?_) q⟩
    obtain ⟨rfl, hI2, q⟩ := q
    have tk : xs.take (i + 1) = xs.take i ++ [x] := by rw [List.take_add_one, e]; rfl
    cases hf : f x with
    | true =>
      rw [if_pos rfl]
      refine me _ _ _ _ (fun y S3 q => ?_) (q hf)
      obtain ⟨rfl, q⟩ := q
      refine ⟨?_, hlt, by rw [tk, List.filter_append, List.map_append]; simp [hf], q⟩
      rw [List.length_map]
      have := List.length_filter_le f (xs.take i)
      rw [List.length_take] at this
      omega
    | false =>
      rw [if_neg Bool.false_ne_true]
      exact ⟨hlt, by rw [tk, List.filter_append, List.map_append]; simp [hf], hI2⟩
  · obtain ⟨_, rfl, hI⟩ := hI
    rw [List.take_length]
    exact he S hI
theorem notin_names {S : Sta} {i : Nat} {acc : List (List Nat)} {x : List Nat} {Q : T → Sta → Prop} (h : S[i]? = some (.lst (stL acc))) (ha : ∀ y ∈ acc, nameOk y = true) (hx : nameOk x = true) (q : Q (.bl (nin acc x)) S) : cmpG .NotIn (.str x) (.obj i) S Q := by
  refine inW_lst (Q := fun b => Q (.bl !b) S) h (gr_name hx) (grs_of fun t ht => ?_) (by simp [dep]) ?_
  · obtain ⟨y, hy, rfl⟩ := List.mem_map.mp ht
    exact gr_name (ha y hy)
  · have e : (stL acc).any (fun y => teq y (.str x)) = acc.any fun y => decide (y = x) := by
      rw [stL, List.any_map]
      simp only [Function.comp_def, teq_str]
    rw [e]
    exact q
/-- need: dep t + 1 -/
def co_gath (k : Nat) : Co := Co.of 1 (A := T) (fun t => [t]) (fun t S => kn t = true ∧ (namesT t).length ≤ 4000 ∧ dep t + 1 ≤ k) (fun t S r S' => Ex S S' ∧ ∃ l, r = .obj l ∧ S.length ≤ l ∧ S'[l]? = some (.lst (stL (gathT t))))
theorem gath_ok {t : T} (h : kn t = true) : ∀ x ∈ gathT t, nameOk x = true := fun x hx => names_ok h x (((gath_spec h).2 x).mp hx)
theorem gath_le {t : T} (h : kn t = true) (hl : (namesT t).length ≤ 4000) : (gathT t).length ≤ 4000 := Nat.le_trans (nodup_le (gath_spec h).1 fun x hx => ((gath_spec h).2 x).mp hx) hl
theorem gathTs_snoc : ∀ (ts : List T) (t : T) (acc : List (List Nat)), gathTs acc (ts ++ [t]) = gathTs acc ts ++ (gathT t).filter (nin (gathTs acc ts))
  | [], t, acc => by simp only [gathTs, List.nil_append]
  | u :: ts, t, acc => by
    rw [List.cons_append]
    simp only [gathTs]
    exact gathTs_snoc ts t _
theorem st_gath {W : Wd} {k : Nat} (h27 : W.Γ 27 = co_gath k) {t : T} {S : Sta} {Q : T → Sta → Prop} (hk : kn t = true) (h8 : (namesT t).length ≤ 4000) (hd : dep t ≤ k)
    (q : ∀ r S', (Ex S S' ∧ ∃ l, r = .obj l ∧ S.length ≤ l ∧ S'[l]? = some (.lst (stL (gathT t)))) → Q r S') : denS W b_law_gathered_0 (En0 Q) [some t, none, none, none] S := by
  simp only [b_law_gathered_0, wLc2, wDc, wSk, shR, wZip, wsAug, wD2, denS, den, denA, denI, denO, denT, denG, denGs, wsSeq, wsN, wsIf, wsR, wsX, wsAsg, wsFld, wsBrk, wsCnt, wVar, wC, wTup, wLst, wDisp, wDict0, wOp, wChain, wAnd, wOr, wNot, wIf, wSl, wFld, wIsi, wCall, wBm, wApp, wMeth, wMethK, wNew, wNil, wCons, woN, woS, wgN, wgSub, wgTup, wgStar, wgNil, wgCons, wT, wYes, wLc, wIt, wRng1, wRng2, wsFor, wipeE, Bi.run, Bm.run, Bm.ty, List.getElem?_cons_zero, List.getElem?_cons_succ, List.set_cons_zero, List.set_cons_succ, Option.some.injEq, exists_eq_left', tru_bl, List.append_nil]
  rcases kn_cases hk with ⟨x, rfl, hx⟩ | ⟨n, ps, rfl, hn, hl, hp⟩
  · refine ⟨.str, rfl, ?_⟩
    simp [isiB]
    refine ⟨by rw [sizeLine_val]; decide, q _ _ ⟨.app, _, rfl, Nat.le_refl _, ?_⟩⟩
    rw [get_new]
    rfl
  · refine ⟨.tuple, rfl, ?_⟩
    simp [isiB]
    simp only [b_law_gathered_1, wLc2, wDc, wSk, shR, wZip, wsAug, wD2, denS, den, denA, denI, denO, denT, denG, denGs, wsSeq, wsN, wsIf, wsR, wsX, wsAsg, wsFld, wsBrk, wsCnt, wVar, wC, wTup, wLst, wDisp, wDict0, wOp, wChain, wAnd, wOr, wNot, wIf, wSl, wFld, wIsi, wCall, wBm, wApp, wMeth, wMethK, wNew, wNil, wCons, woN, woS, wgN, wgSub, wgTup, wgStar, wgNil, wgCons, wT, wYes, wLc, wIt, wRng1, wRng2, wsFor, wipeE, Bi.run, Bm.run, Bm.ty, List.getElem?_cons_zero, List.getElem?_cons_succ, List.set_cons_zero, List.set_cons_succ, Option.some.injEq, exists_eq_left', tru_bl, List.append_nil]
    refine ⟨by simp, ?_⟩
    simp only [b_law_gathered_2, wLc2, wDc, wSk, shR, wZip, wsAug, wD2, denS, den, denA, denI, denO, denT, denG, denGs, wsSeq, wsN, wsIf, wsR, wsX, wsAsg, wsFld, wsBrk, wsCnt, wVar, wC, wTup, wLst, wDisp, wDict0, wOp, wChain, wAnd, wOr, wNot, wIf, wSl, wFld, wIsi, wCall, wBm, wApp, wMeth, wMethK, wNew, wNil, wCons, woN, woS, wgN, wgSub, wgTup, wgStar, wgNil, wgCons, wT, wYes, wLc, wIt, wRng1, wRng2, wsFor, wipeE, Bi.run, Bm.run, Bm.ty, List.getElem?_cons_zero, List.getElem?_cons_succ, List.set_cons_zero, List.set_cons_succ, Option.some.injEq, exists_eq_left', tru_bl, List.append_nil, slG, cut_tail]
    have e0 : (S ++ [Cell.lst []])[S.length]? = some (.lst (stL [])) := get_new
    have x0 : Ex S (S ++ [Cell.lst []]) := .app
    have l0 : S.length ≤ S.length := Nat.le_refl _
    generalize S ++ [Cell.lst []] = S0 at e0 x0 ⊢
    have hgs := fun i => gathTs_spec (ps.take i) [] List.nodup_nil fun p hm => (gath_spec (hp p (List.mem_of_mem_take hm))).1
    have nm : ∀ i, ∀ x ∈ gathTs [] (ps.take i), x ∈ namesT (.tup (.str n :: ps)) := fun i x hx => by
      rcases ((hgs i).2 x).mp hx with z | ⟨p, hm, z⟩
      · exact absurd z List.not_mem_nil
      · simp only [namesT, namesU, namesTs_flat, List.mem_flatten, List.mem_map]
        exact ⟨_, ⟨p, List.mem_of_mem_take hm, rfl⟩, ((gath_spec (hp p (List.mem_of_mem_take hm))).2 x).mp z⟩
    have okA : ∀ i, ∀ x ∈ gathTs [] (ps.take i), nameOk x = true := fun i x hx => names_ok hk x (nm i x hx)
    have lenA : ∀ i, (gathTs [] (ps.take i)).length ≤ 4000 := fun i => Nat.le_trans (nodup_le (hgs i).1 (nm i)) h8
    refine iterW_tup (forW_by (fun i ρ S' => Ex S S' ∧ ∃ a o2, S.length ≤ a ∧ S'[a]? = some (.lst (stL (gathTs [] (ps.take i)))) ∧ ρ = [some (.tup (.str n :: ps)), some (.obj a), o2, none])
      ⟨x0, S.length, none, l0, by simpa [gathTs] using e0, rfl⟩ (fun _ _ _ _ => trivial) (fun i y ρ S' e z => ?_) (fun ρ S' z => ?_) (mono_denS W _))
    · obtain ⟨x1, a, o2, la, ea, rfl⟩ := z
      have hy := List.mem_of_getElem? e
      have hd2 := dep_part (ts := .str n :: ps) (List.mem_cons_of_mem _ hy)
      refine ⟨_, bd_nm _ _ _ _, ?_⟩
      simp only [b_law_gathered_2l_0, wLc2, wDc, wSk, shR, wZip, wsAug, wD2, denS, den, denA, denI, denO, denT, denG, denGs, wsSeq, wsN, wsIf, wsR, wsX, wsAsg, wsFld, wsBrk, wsCnt, wVar, wC, wTup, wLst, wDisp, wDict0, wOp, wChain, wAnd, wOr, wNot, wIf, wSl, wFld, wIsi, wCall, wBm, wApp, wMeth, wMethK, wNew, wNil, wCons, woN, woS, wgN, wgSub, wgTup, wgStar, wgNil, wgCons, wT, wYes, wLc, wIt, wRng1, wRng2, wsFor, wipeE, Bi.run, Bm.run, Bm.ty, List.getElem?_cons_zero, List.getElem?_cons_succ, List.set_cons_zero, List.set_cons_succ, Option.some.injEq, exists_eq_left', tru_bl, List.append_nil, h27]
      refine ⟨rfl, y, rfl, ⟨hp y hy, Nat.le_trans (names_part hy) h8, by omega⟩, fun r S2 z => ?_⟩
      obtain ⟨x2, l, rfl, ll, el⟩ := z
      have ea2 := x2.get ea
      have gl := gath_le (hp y hy) (Nat.le_trans (names_part hy) h8)
      refine iterW_lst el (lcW_fm (fun t => match t with | .str x => nin (gathTs [] (ps.take i)) x | _ => false) id (fun S3 => Ex S2 S3 ∧ S3[a]? = some (.lst (stL (gathTs [] (ps.take i)))) ∧ S3[l]? = some (.lst (stL (gathT y)))) ⟨.rfl', ea2, el⟩ (fun _ h => h.2.2)
        (by rw [stL, List.length_map, sizeLine_val]; omega) (mono_denT W x_law_gathered_2l_0_c0) (mono_den W x_law_gathered_2l_0_e0) (fun t S3 ht h => ?_) (fun S3 h => ?_))
      · obtain ⟨x, hx, rfl⟩ := List.mem_map.mp ht
        refine ⟨_, bd_nm _ _ _ _, ?_⟩
        simp only [x_law_gathered_2l_0_c0, x_law_gathered_2l_0_e0, wLc2, wDc, wSk, shR, wZip, wsAug, wD2, denS, den, denA, denI, denO, denT, denG, denGs, wsSeq, wsN, wsIf, wsR, wsX, wsAsg, wsFld, wsBrk, wsCnt, wVar, wC, wTup, wLst, wDisp, wDict0, wOp, wChain, wAnd, wOr, wNot, wIf, wSl, wFld, wIsi, wCall, wBm, wApp, wMeth, wMethK, wNew, wNil, wCons, woN, woS, wgN, wgSub, wgTup, wgStar, wgNil, wgCons, wT, wYes, wLc, wIt, wRng1, wRng2, wsFor, wipeE, Bi.run, Bm.run, Bm.ty, List.getElem?_cons_zero, List.getElem?_cons_succ, List.set_cons_zero, List.set_cons_succ, Option.some.injEq, exists_eq_left', tru_bl, List.append_nil]
        refine notin_names h.2.1 (okA i) (gath_ok (hp y hy) x hx) ?_
        rw [tru_bl]
        exact ⟨rfl, h, fun _ => ⟨rfl, h⟩⟩
      · have ef : ((stL (gathT y)).filter (fun t => match t with | .str x => nin (gathTs [] (ps.take i)) x | _ => false)).map id = stL ((gathT y).filter (nin (gathTs [] (ps.take i)))) := by
          rw [List.map_id, stL, List.filter_map]
          rfl
        rw [ef]
        have fl := List.length_filter_le (nin (gathTs [] (ps.take i))) (gathT y)
        have la2 := lenA i
        refine bin_lst (get_app h.2.1) get_new (by rw [stL, stL, List.length_map, List.length_map]; omega) ?_
        refine ⟨((((x1.trans' x2).trans' h.1).trans' .app).trans' .app), _, _, Nat.le_trans la (Nat.le_trans (Nat.le_of_lt (lt_of_some ea)) (Nat.le_trans x2.len (Nat.le_trans h.1.len (by simp)))), ?_, rfl⟩
        rw [get_new]
        have tk : ps.take (i + 1) = ps.take i ++ [y] := by rw [List.take_add_one, e]; rfl
        rw [tk, gathTs_snoc, stL, stL, stL, List.map_append]
    · obtain ⟨x1, a, o2, la, ea, rfl⟩ := z
      rw [List.take_length] at ea
      simp only [b_law_gathered_3, wLc2, wDc, wSk, shR, wZip, wsAug, wD2, denS, den, denA, denI, denO, denT, denG, denGs, wsSeq, wsN, wsIf, wsR, wsX, wsAsg, wsFld, wsBrk, wsCnt, wVar, wC, wTup, wLst, wDisp, wDict0, wOp, wChain, wAnd, wOr, wNot, wIf, wSl, wFld, wIsi, wCall, wBm, wApp, wMeth, wMethK, wNew, wNil, wCons, woN, woS, wgN, wgSub, wgTup, wgStar, wgNil, wgCons, wT, wYes, wLc, wIt, wRng1, wRng2, wsFor, wipeE, Bi.run, Bm.run, Bm.ty, List.getElem?_cons_zero, List.getElem?_cons_succ, List.set_cons_zero, List.set_cons_succ, Option.some.injEq, exists_eq_left', tru_bl, List.append_nil]
      refine q _ _ ⟨x1, a, rfl, la, ?_⟩
      rw [ea]
      simp only [gathT, gathU]
/-! ### exchanged -/
abbrev Sg := List (List Nat × T)
def pairT (σ : Sg) : List T := σ.map fun p => .tup [.str p.1, p.2]
def kvT (σ : Sg) : List (T × T) := σ.map fun p => (.str p.1, p.2)
def sub (σ : Sg) (x : List Nat) : T := (σ.lookup x).getD (.str x)
theorem dget_kvT (σ : Sg) (n : List Nat) : dget (kvT σ) (.str n) = σ.lookup n := by
  induction σ with
  | nil => rfl
  | cons p σ ih =>
    obtain ⟨a, b⟩ := p
    unfold dget kvT at *
    rw [List.map_cons, List.find?_cons, List.lookup_cons]
    by_cases e : a = n
    · subst e
      simp [keyEq]
    · have h1 : keyEq (T.str a) (T.str n) = false := decide_eq_false e
      have h2 : (n == a) = false := by simp; exact fun z => e z.symm
      rw [h1, h2]
      exact ih
/-- need: dep t + 1 -/
def co_exchanged (k : Nat) : Co := Co.of 2 (A := T × Nat × Sg) (fun a => [a.1, .obj a.2.1]) (fun a S => kn a.1 = true ∧ S[a.2.1]? = some (.dct (kvT a.2.2)) ∧ dep a.1 + 1 ≤ k) (fun a S r S' => Ex S S' ∧ r = putT (sub a.2.2) a.1)
theorem st_exchanged {W : Wd} {k : Nat} (h29 : W.Γ 29 = co_exchanged k) {t : T} {d : Nat} {σ : Sg} {S : Sta} {Q : T → Sta → Prop} (hk : kn t = true) (hdc : S[d]? = some (.dct (kvT σ))) (hd : dep t ≤ k)
    (q : ∀ r S', Ex S S' ∧ r = putT (sub σ) t → Q r S') : denS W b_exchanged_0 (En0 Q) [some t, some (.obj d), none, none, none] S := by
  simp only [b_exchanged_0, wLc2, wDc, wSk, shR, wZip, wsAug, wD2, denS, den, denA, denI, denO, denT, denG, denGs, wsSeq, wsN, wsIf, wsR, wsX, wsAsg, wsFld, wsBrk, wsCnt, wVar, wC, wTup, wLst, wDisp, wDict0, wOp, wChain, wAnd, wOr, wNot, wIf, wSl, wFld, wIsi, wCall, wBm, wApp, wMeth, wMethK, wNew, wNil, wCons, woN, woS, wgN, wgSub, wgTup, wgStar, wgNil, wgCons, wT, wYes, wLc, wIt, wRng1, wRng2, wsFor, wipeE, Bi.run, Bm.run, Bm.ty, List.getElem?_cons_zero, List.getElem?_cons_succ, List.set_cons_zero, List.set_cons_succ, Option.some.injEq, exists_eq_left', tru_bl, List.append_nil]
  rcases kn_cases hk with ⟨x, rfl, hx⟩ | ⟨n, ps, rfl, hn, hl, hp⟩
  · refine ⟨.str, rfl, ?_⟩
    simp [isiB]
    refine ⟨⟨_, hdc⟩, _, hdc, rfl, q _ _ ⟨.rfl', ?_⟩⟩
    rw [dget_kvT]
    simp only [putT, sub]
  · refine ⟨.tuple, rfl, ?_⟩
    simp [isiB]
    simp only [b_exchanged_1, wLc2, wDc, wSk, shR, wZip, wsAug, wD2, denS, den, denA, denI, denO, denT, denG, denGs, wsSeq, wsN, wsIf, wsR, wsX, wsAsg, wsFld, wsBrk, wsCnt, wVar, wC, wTup, wLst, wDisp, wDict0, wOp, wChain, wAnd, wOr, wNot, wIf, wSl, wFld, wIsi, wCall, wBm, wApp, wMeth, wMethK, wNew, wNil, wCons, woN, woS, wgN, wgSub, wgTup, wgStar, wgNil, wgCons, wT, wYes, wLc, wIt, wRng1, wRng2, wsFor, wipeE, Bi.run, Bm.run, Bm.ty, List.getElem?_cons_zero, List.getElem?_cons_succ, List.set_cons_zero, List.set_cons_succ, Option.some.injEq, exists_eq_left', tru_bl, List.append_nil, seqOf]
    refine ⟨by decide, by simp, ?_⟩
    simp only [List.length_cons, List.take_succ_cons, List.take_zero, List.drop_succ_cons, List.drop_zero, List.nil_append, List.cons_append, show ps.length + 1 + 1 - 2 = ps.length by omega, List.take_length, List.drop_length, wLc2, wDc, wSk, shR, wZip, wsAug, wD2, denS, den, denA, denI, denO, denT, denG, denGs, wsSeq, wsN, wsIf, wsR, wsX, wsAsg, wsFld, wsBrk, wsCnt, wVar, wC, wTup, wLst, wDisp, wDict0, wOp, wChain, wAnd, wOr, wNot, wIf, wSl, wFld, wIsi, wCall, wBm, wApp, wMeth, wMethK, wNew, wNil, wCons, woN, woS, wgN, wgSub, wgTup, wgStar, wgNil, wgCons, wT, wYes, wLc, wIt, wRng1, wRng2, wsFor, wipeE, Bi.run, Bm.run, Bm.ty, List.getElem?_cons_zero, List.getElem?_cons_succ, List.set_cons_zero, List.set_cons_succ, Option.some.injEq, exists_eq_left', tru_bl, List.append_nil]
    refine ⟨trivial, ?_⟩
    have x1 : Ex S (S ++ [.lst ps]) := Ch.app
    simp only [b_exchanged_2, wLc2, wDc, wSk, shR, wZip, wsAug, wD2, denS, den, denA, denI, denO, denT, denG, denGs, wsSeq, wsN, wsIf, wsR, wsX, wsAsg, wsFld, wsBrk, wsCnt, wVar, wC, wTup, wLst, wDisp, wDict0, wOp, wChain, wAnd, wOr, wNot, wIf, wSl, wFld, wIsi, wCall, wBm, wApp, wMeth, wMethK, wNew, wNil, wCons, woN, woS, wgN, wgSub, wgTup, wgStar, wgNil, wgCons, wT, wYes, wLc, wIt, wRng1, wRng2, wsFor, wipeE, Bi.run, Bm.run, Bm.ty, List.getElem?_cons_zero, List.getElem?_cons_succ, List.set_cons_zero, List.set_cons_succ, Option.some.injEq, exists_eq_left', tru_bl, List.append_nil]
    refine ⟨by rw [sizeLine_val]; simp, ?_⟩
    refine iterW_lst get_new (lcW_map (putT (sub σ)) (fun S' => Ex (S ++ [.lst ps]) S') .rfl' (fun S' x => x.get get_new) (by rw [sizeLine_val]; omega) (fun y S' hy x => ?_) (fun S' x => ?_) (mono_den W _))
    · refine ⟨_, bd_nm _ _ _ _, ?_⟩
      simp only [x_exchanged_2_e0, wLc2, wDc, wSk, shR, wZip, wsAug, wD2, denS, den, denA, denI, denO, denT, denG, denGs, wsSeq, wsN, wsIf, wsR, wsX, wsAsg, wsFld, wsBrk, wsCnt, wVar, wC, wTup, wLst, wDisp, wDict0, wOp, wChain, wAnd, wOr, wNot, wIf, wSl, wFld, wIsi, wCall, wBm, wApp, wMeth, wMethK, wNew, wNil, wCons, woN, woS, wgN, wgSub, wgTup, wgStar, wgNil, wgCons, wT, wYes, wLc, wIt, wRng1, wRng2, wsFor, wipeE, Bi.run, Bm.run, Bm.ty, List.getElem?_cons_zero, List.getElem?_cons_succ, List.set_cons_zero, List.set_cons_succ, Option.some.injEq, exists_eq_left', tru_bl, List.append_nil, h29]
      have hd2 := dep_part (ts := .str n :: ps) (List.mem_cons_of_mem _ hy)
      exact ⟨rfl, (y, d, σ), rfl, ⟨hp y hy, x.get (x1.get hdc), (show dep y + 1 ≤ k by omega)⟩, fun r S2 z => ⟨z.2, x.trans' z.1⟩⟩
    · refine gTuple_new (bin_tup (by simp; omega) (q _ _ ⟨(x1.trans' x).trans' .app, ?_⟩))
      simp only [putT, putU, putTs_map, List.cons_append, List.nil_append]
end TR
set_option Elab.async false
set_option linter.all false
set_option maxRecDepth 100000
set_option maxHeartbeats 2000000
/-! TK20: pairs put in. -/
namespace TR
open PySem PySem.Spec L2
open PyProof.Rows hiding St

/-- unlike names, each with a kind -/
structure SgOk (σ : Sg) : Prop where
  nd : (σ.map (·.1)).Nodup
  nm : ∀ p ∈ σ, nameOk p.1 = true
  kd : ∀ p ∈ σ, kn p.2 = true
  few : σ.length ≤ 4000
theorem pair_seq {S : Sta} {ρ : Ev} {i j : Nat} (a b : T) : bindP (.tup 2 (.cons (.nm i) (.cons (.nm j) .nil))) (.tup [a, b]) S ρ = some ((ρ.set i (some a)).set j (some b)) := by
  simp [bindP, bindPs, seqOf]
theorem kvT_take {σ : Sg} {i : Nat} {p : List Nat × T} (nd : (σ.map (·.1)).Nodup) (e : σ[i]? = some p) : dput (kvT (σ.take i)) (.str p.1) p.2 = kvT (σ.take (i + 1)) := by
  have tk : σ.take (i + 1) = σ.take i ++ [p] := by rw [List.take_add_one, e]; rfl
  unfold dput
  rw [if_neg, tk]
  · simp [kvT]
  · intro h
    obtain ⟨q, hq, he⟩ := List.any_eq_true.mp h
    obtain ⟨r, hr, rfl⟩ := List.mem_map.mp hq
    have e1 : r.1 = p.1 := of_decide_eq_true he
    have nd2 : ((σ.take (i + 1)).map (·.1)).Nodup := nd.sublist ((List.take_sublist _ _).map _)
    rw [tk, List.map_append, List.nodup_append] at nd2
    exact nd2.2.2 r.1 (List.mem_map_of_mem hr) p.1 (by simp) e1
/-- need: dep t + 2 -/
def co_put_kinds (k : Nat) : Co := Co.of 2 (A := T × Sg) (fun a => [a.1, .tup (pairT a.2)]) (fun a S => kn a.1 = true ∧ SgOk a.2 ∧ dep a.1 + 2 ≤ k) (fun a S r S' => Ex S S' ∧ r = putT (sub a.2) a.1)
theorem st_put_kinds {W : Wd} {k : Nat} (h29 : W.Γ 29 = co_exchanged k) {t : T} {σ : Sg} {S : Sta} {Q : T → Sta → Prop} (hk : kn t = true) (ho : SgOk σ) (hd : dep t + 1 ≤ k)
    (q : ∀ r S', Ex S S' ∧ r = putT (sub σ) t → Q r S') : denS W b_put_kinds_0 (En0 Q) [some t, some (.tup (pairT σ)), none, none] S := by
  simp only [b_put_kinds_0, wLc2, wDc, wSk, shR, wZip, wsAug, wD2, denS, den, denA, denI, denO, denT, denG, denGs, wsSeq, wsN, wsIf, wsR, wsX, wsAsg, wsFld, wsBrk, wsCnt, wVar, wC, wTup, wLst, wDisp, wDict0, wOp, wChain, wAnd, wOr, wNot, wIf, wSl, wFld, wIsi, wCall, wBm, wApp, wMeth, wMethK, wNew, wNil, wCons, woN, woS, wgN, wgSub, wgTup, wgStar, wgNil, wgCons, wT, wYes, wLc, wIt, wRng1, wRng2, wsFor, wipeE, Bi.run, Bm.run, Bm.ty, List.getElem?_cons_zero, List.getElem?_cons_succ, List.set_cons_zero, List.set_cons_succ, Option.some.injEq, exists_eq_left', tru_bl, List.append_nil, h29]
  have go : ∀ (i : Nat), i ≤ σ.length → dcW (fun _ => True) (.tup 2 (.cons (.nm 2) (.cons (.nm 3) .nil))) wYes (den W (.var 2)) (den W (.var 3)) [some t, some (.tup (pairT σ)), none, none] (fun ts S2 => ts = kvT σ ∧ S2 = S) (pairT (σ.drop (σ.length - i))) (kvT (σ.take (σ.length - i))) S := by
    intro i
    induction i with
    | zero =>
      intro _
      rw [Nat.sub_zero, List.drop_length, List.take_length]
      exact ⟨trivial, rfl, rfl⟩
    | succ i ih =>
      intro hi
      have hlt : σ.length - (i + 1) < σ.length := by omega
      have e := List.getElem?_eq_getElem hlt
      rw [List.drop_eq_getElem_cons hlt]
      refine ⟨trivial, _, pair_seq _ _, ?_⟩
      simp only [wYes, if_true]
      refine ⟨_, rfl, _, rfl, rfl, ?_, ?_⟩
      · rw [kvT, List.length_map, List.length_take, sizeLine_val]
        have := ho.few
        omega
      · rw [kvT_take ho.nd e, show σ.length - (i + 1) + 1 = σ.length - i by omega]
        exact ih (by omega)
  have g0 := go σ.length (Nat.le_refl _)
  rw [Nat.sub_self, List.drop_zero, List.take_zero] at g0
  refine iterW_tup ?_
  refine dcW_mono mono_yes (mono_den W _) (mono_den W _) (fun ts S2 z => ?_) _ _ _ g0
  obtain ⟨rfl, rfl⟩ := z
  refine ⟨rfl, (t, S2.length, σ), rfl, ⟨hk, get_new, (show dep t + 1 ≤ k by omega)⟩, fun r S3 z => ?_⟩
  exact q _ _ ⟨Ex.trans' .app z.1, z.2⟩
end TR
set_option Elab.async false
set_option linter.all false
set_option maxRecDepth 100000
set_option maxHeartbeats 2000000
/-! TK21: pairs put in by the law, and one behind the other. -/
namespace TR
open PySem PySem.Spec L2
open PyProof.Rows hiding St

theorem ne_nil_lst {S : Sta} {a b : Nat} {xs : List T} {Q : T → Sta → Prop} (ha : S[a]? = some (.lst xs)) (hb : S[b]? = some (.lst [])) (hg : grs xs = true) (q : Q (.bl !xs.isEmpty) S) : cmpG .NotEq (.obj a) (.obj b) S Q := by
  show neW (.obj a) (.obj b) S fun b => Q (.bl b) S
  simp only [neW]
  refine ⟨.list (toDs xs), .list [], by simp only [toDS, ha, cellD, hg, cond_true], by simp only [toDS, hb, cellD]; rfl, ?_, ?_⟩
  · have : (PyData.list []).depth ≤ 100 := by simp [PyData.depth, PyData.depthAll]
    omega
  · have e : PyData.eqv (.list (toDs xs)) (.list []) = xs.isEmpty := by
      cases xs with
      | nil => simp [toDs, PyData.eqv, PyData.eqvAll]
      | cons x xs => simp [toDs, PyData.eqv, PyData.eqvAll]
    rw [e]
    exact q
def pName : T → List Nat
  | .tup (.str n :: _) => n
  | _ => []
def pVal : T → T
  | .tup [_, v] => v
  | t => t
theorem first_lookup (x : List Nat) : ∀ σ : Sg, ((σ.filter fun p => decide (p.1 = x)).map (·.2)).head? = σ.lookup x
  | [] => rfl
  | (n, v) :: σ => by
    rw [List.lookup_cons]
    by_cases e : n = x
    · subst e
      simp
    · have h2 : (x == n) = false := by simp; exact fun z => e z.symm
      rw [List.filter_cons, if_neg (by simpa using e), h2]
      exact first_lookup x σ
theorem pairT_mem {σ : Sg} {t : T} (h : t ∈ pairT σ) : ∃ p ∈ σ, t = .tup [.str p.1, p.2] := by
  obtain ⟨p, hp, rfl⟩ := List.mem_map.mp h
  exact ⟨p, hp, rfl⟩
/-- need: dep t + 1 -/
def co_kind_put (k : Nat) : Co := Co.of 2 (A := T × Sg) (fun a => [a.1, .tup (pairT a.2)]) (fun a S => kn a.1 = true ∧ SgOk a.2 ∧ dep a.1 + 1 ≤ k) (fun a S r S' => Ex S S' ∧ r = putT (sub a.2) a.1)
theorem st_kind_put {W : Wd} {k : Nat} (h31 : W.Γ 31 = co_kind_put k) {t : T} {σ : Sg} {S : Sta} {Q : T → Sta → Prop} (hk : kn t = true) (ho : SgOk σ) (hd : dep t ≤ k)
    (q : ∀ r S', Ex S S' ∧ r = putT (sub σ) t → Q r S') : denS W b_law_kind_put_0 (En0 Q) [some t, some (.tup (pairT σ)), none, none, none, none] S := by
  simp only [b_law_kind_put_0, wLc2, wDc, wSk, shR, wZip, wsAug, wD2, denS, den, denA, denI, denO, denT, denG, denGs, wsSeq, wsN, wsIf, wsR, wsX, wsAsg, wsFld, wsBrk, wsCnt, wVar, wC, wTup, wLst, wDisp, wDict0, wOp, wChain, wAnd, wOr, wNot, wIf, wSl, wFld, wIsi, wCall, wBm, wApp, wMeth, wMethK, wNew, wNil, wCons, woN, woS, wgN, wgSub, wgTup, wgStar, wgNil, wgCons, wT, wYes, wLc, wIt, wRng1, wRng2, wsFor, wipeE, Bi.run, Bm.run, Bm.ty, List.getElem?_cons_zero, List.getElem?_cons_succ, List.set_cons_zero, List.set_cons_succ, Option.some.injEq, exists_eq_left', tru_bl, List.append_nil]
  rcases kn_cases hk with ⟨x, rfl, hx⟩ | ⟨n, ps, rfl, hn, hl, hp⟩
  · refine ⟨.str, rfl, ?_⟩
    simp [isiB]
    simp only [b_law_kind_put_0t_0, wLc2, wDc, wSk, shR, wZip, wsAug, wD2, denS, den, denA, denI, denO, denT, denG, denGs, wsSeq, wsN, wsIf, wsR, wsX, wsAsg, wsFld, wsBrk, wsCnt, wVar, wC, wTup, wLst, wDisp, wDict0, wOp, wChain, wAnd, wOr, wNot, wIf, wSl, wFld, wIsi, wCall, wBm, wApp, wMeth, wMethK, wNew, wNil, wCons, woN, woS, wgN, wgSub, wgTup, wgStar, wgNil, wgCons, wT, wYes, wLc, wIt, wRng1, wRng2, wsFor, wipeE, Bi.run, Bm.run, Bm.ty, List.getElem?_cons_zero, List.getElem?_cons_succ, List.set_cons_zero, List.set_cons_succ, Option.some.injEq, exists_eq_left', tru_bl, List.append_nil]
    refine iterW_tup (lcW_fm (fun t => decide (pName t = x)) pVal (fun S1 => Ex S S1) .rfl' (fun _ _ => trivial) (by rw [pairT, List.length_map, sizeLine_val]; have := ho.few; omega) (mono_denT W x_law_kind_put_0t_0_c0) (mono_den W x_law_kind_put_0t_0_e0) (fun y S1 hy x1 => ?_) (fun S1 x1 => ?_))
    · obtain ⟨p, hp, rfl⟩ := pairT_mem hy
      refine ⟨_, pair_seq _ _, ?_⟩
      simp only [x_law_kind_put_0t_0_c0, x_law_kind_put_0t_0_e0, wLc2, wDc, wSk, shR, wZip, wsAug, wD2, denS, den, denA, denI, denO, denT, denG, denGs, wsSeq, wsN, wsIf, wsR, wsX, wsAsg, wsFld, wsBrk, wsCnt, wVar, wC, wTup, wLst, wDisp, wDict0, wOp, wChain, wAnd, wOr, wNot, wIf, wSl, wFld, wIsi, wCall, wBm, wApp, wMeth, wMethK, wNew, wNil, wCons, woN, woS, wgN, wgSub, wgTup, wgStar, wgNil, wgCons, wT, wYes, wLc, wIt, wRng1, wRng2, wsFor, wipeE, Bi.run, Bm.run, Bm.ty, List.getElem?_cons_zero, List.getElem?_cons_succ, List.set_cons_zero, List.set_cons_succ, Option.some.injEq, exists_eq_left', tru_bl, List.append_nil]
      refine cg_eq_str ?_
      rw [tru_bl]
      exact ⟨rfl, x1, fun _ => ⟨rfl, x1⟩⟩
    · have ef : ((pairT σ).filter fun t => decide (pName t = x)).map pVal = (σ.filter fun p => decide (p.1 = x)).map (·.2) := by
        rw [pairT, List.filter_map, List.map_map]
        rfl
      rw [ef]
      have hf := first_lookup x σ
      have hm : ∀ v ∈ (σ.filter fun p => decide (p.1 = x)).map (·.2), kn v = true := fun v hv => by
        obtain ⟨p, hp, rfl⟩ := List.mem_map.mp hv
        exact ho.kd p (List.mem_filter.mp hp).1
      generalize (σ.filter fun p => decide (p.1 = x)).map (·.2) = vs at hf hm ⊢
      simp only [b_law_kind_put_0t_1, wLc2, wDc, wSk, shR, wZip, wsAug, wD2, denS, den, denA, denI, denO, denT, denG, denGs, wsSeq, wsN, wsIf, wsR, wsX, wsAsg, wsFld, wsBrk, wsCnt, wVar, wC, wTup, wLst, wDisp, wDict0, wOp, wChain, wAnd, wOr, wNot, wIf, wSl, wFld, wIsi, wCall, wBm, wApp, wMeth, wMethK, wNew, wNil, wCons, woN, woS, wgN, wgSub, wgTup, wgStar, wgNil, wgCons, wT, wYes, wLc, wIt, wRng1, wRng2, wsFor, wipeE, Bi.run, Bm.run, Bm.ty, List.getElem?_cons_zero, List.getElem?_cons_succ, List.set_cons_zero, List.set_cons_succ, Option.some.injEq, exists_eq_left', tru_bl, List.append_nil]
      have e1 : (S1 ++ [Cell.lst vs])[S1.length]? = some (.lst vs) := get_new
      have x2 : Ex S (S1 ++ [Cell.lst vs]) := x1.trans' .app
      generalize S1 ++ [Cell.lst vs] = S2 at e1 x2 ⊢
      generalize S1.length = l at e1 ⊢
      refine ⟨by simp, ne_nil_lst (get_app e1) get_new (grs_of fun v hv => kn_gr (hm v hv)) ?_⟩
      cases vs with
      | nil =>
        simp only [List.isEmpty_nil, Bool.not_true, tru_bl, Bool.false_eq_true, if_false]
        refine q _ _ ⟨x2.trans' .app, ?_⟩
        simp only [putT, sub, ← hf]
        rfl
      | cons v vs =>
        simp only [List.isEmpty_cons, Bool.not_false, tru_bl, if_true]
        refine ixG_lst (get_app e1) atI_zero (q _ _ ⟨x2.trans' .app, ?_⟩)
        simp only [putT, sub, ← hf]
        rfl
  · refine ⟨.tuple, rfl, ?_⟩
    simp [isiB]
    simp only [b_law_kind_put_1, wLc2, wDc, wSk, shR, wZip, wsAug, wD2, denS, den, denA, denI, denO, denT, denG, denGs, wsSeq, wsN, wsIf, wsR, wsX, wsAsg, wsFld, wsBrk, wsCnt, wVar, wC, wTup, wLst, wDisp, wDict0, wOp, wChain, wAnd, wOr, wNot, wIf, wSl, wFld, wIsi, wCall, wBm, wApp, wMeth, wMethK, wNew, wNil, wCons, woN, woS, wgN, wgSub, wgTup, wgStar, wgNil, wgCons, wT, wYes, wLc, wIt, wRng1, wRng2, wsFor, wipeE, Bi.run, Bm.run, Bm.ty, List.getElem?_cons_zero, List.getElem?_cons_succ, List.set_cons_zero, List.set_cons_succ, Option.some.injEq, exists_eq_left', tru_bl, List.append_nil]
    refine ixG_tup atI_zero ⟨by simp [sizeLine_val], ?_⟩
    simp only [slG, cut_tail]
    refine iterW_tup (lcW_map (putT (sub σ)) (fun S' => Ex S S') .rfl' (fun _ _ => trivial) (by rw [sizeLine_val]; omega) (fun y S' hy x => ?_) (fun S' x => ?_) (mono_den W x_law_kind_put_1_e0))
    · refine ⟨_, bd_nm _ _ _ _, ?_⟩
      simp only [x_law_kind_put_1_e0, wLc2, wDc, wSk, shR, wZip, wsAug, wD2, denS, den, denA, denI, denO, denT, denG, denGs, wsSeq, wsN, wsIf, wsR, wsX, wsAsg, wsFld, wsBrk, wsCnt, wVar, wC, wTup, wLst, wDisp, wDict0, wOp, wChain, wAnd, wOr, wNot, wIf, wSl, wFld, wIsi, wCall, wBm, wApp, wMeth, wMethK, wNew, wNil, wCons, woN, woS, wgN, wgSub, wgTup, wgStar, wgNil, wgCons, wT, wYes, wLc, wIt, wRng1, wRng2, wsFor, wipeE, Bi.run, Bm.run, Bm.ty, List.getElem?_cons_zero, List.getElem?_cons_succ, List.set_cons_zero, List.set_cons_succ, Option.some.injEq, exists_eq_left', tru_bl, List.append_nil, h31]
      have hd2 := dep_part (ts := .str n :: ps) (List.mem_cons_of_mem _ hy)
      exact ⟨rfl, (y, σ), rfl, ⟨hp y hy, ho, (show dep y + 1 ≤ k by omega)⟩, fun r S2 z => ⟨z.2, x.trans' z.1⟩⟩
    · refine gTuple_new (bin_tup (by simp; omega) (q _ _ ⟨x.trans' .app, ?_⟩))
      simp only [putT, putU, putTs_map, List.cons_append, List.nil_append]
/-! ### one behind the other -/
def behind (σ τ : Sg) : Sg := σ.map (fun p => (p.1, putT (sub τ) p.2)) ++ τ.filter fun p => nin (σ.map (·.1)) p.1
theorem lookup_mapv (f : T → T) (x : List Nat) : ∀ σ : Sg, (σ.map fun p => (p.1, f p.2)).lookup x = (σ.lookup x).map f
  | [] => rfl
  | (n, v) :: σ => by
    rw [List.map_cons, List.lookup_cons, List.lookup_cons, lookup_mapv f x σ]
    cases x == n <;> rfl
theorem lookup_filt (f : List Nat → Bool) (x : List Nat) (h : f x = true) : ∀ σ : Sg, (σ.filter fun p => f p.1).lookup x = σ.lookup x
  | [] => rfl
  | (n, v) :: σ => by
    rw [List.filter_cons, List.lookup_cons]
    by_cases e : x = n
    · subst e
      rw [if_pos h, List.lookup_cons]
      simp
    · have h2 : (x == n) = false := by simpa using e
      rw [h2]
      split
      · rw [List.lookup_cons, h2]
        exact lookup_filt f x h σ
      · exact lookup_filt f x h σ
theorem lookup_in {σ : Sg} {x : List Nat} {v : T} (h : σ.lookup x = some v) : x ∈ σ.map (·.1) := by
  by_cases z : x ∈ σ.map (·.1)
  · exact z
  · rw [lookup_keys rfl z] at h
    cases h
theorem lookup_out {σ : Sg} {x : List Nat} (h : σ.lookup x = none) : x ∉ σ.map (·.1) := by
  induction σ with
  | nil => exact List.not_mem_nil
  | cons p σ ih =>
    rw [List.lookup_cons] at h
    cases e : x == p.1 with
    | true => rw [e] at h; cases h
    | false =>
      rw [e] at h
      rw [List.map_cons, List.mem_cons, not_or]
      exact ⟨by simpa using e, ih h⟩
theorem sub_behind (σ τ : Sg) (x : List Nat) : sub (behind σ τ) x = putT (sub τ) (sub σ x) := by
  unfold sub behind
  rw [List.lookup_append, lookup_mapv]
  cases e : σ.lookup x with
  | some v => rfl
  | none =>
    have := lookup_filt (nin (σ.map (·.1))) x (nin_iff.mpr (lookup_out e)) τ
    rw [this]
    simp [putT]
theorem put_put {f g : List Nat → T} {t : T} (h : kn t = true) : putT g (putT f t) = putT (fun x => putT g (f x)) t := by
  refine kn_ind (P := fun t => putT g (putT f t) = putT (fun x => putT g (f x)) t) (fun x hx => by simp only [putT]) (fun n ps hn hl hp ih => ?_) h
  simp only [putT, putU, putTs_map, List.map_map]
  congr 2
  exact List.map_congr_left fun p hm => ih p hm
theorem put_id {f : List Nat → T} (hf : ∀ x, f x = .str x) {t : T} (h : kn t = true) : putT f t = t := by
  refine kn_ind (P := fun t => putT f t = t) (fun x hx => by simp only [putT, hf]) (fun n ps hn hl hp ih => ?_) h
  simp only [putT, putU, putTs_map]
  rw [List.map_congr_left (g := id) fun p hm => ih p hm, List.map_id]
theorem put_kn {f : List Nat → T} (hf : ∀ x, nameOk x = true → kn (f x) = true) {t : T} (h : kn t = true) : kn (putT f t) = true := by
  refine kn_ind (P := fun t => kn (putT f t) = true) (fun x hx => by simp only [putT]; exact hf x hx) (fun n ps hn hl hp ih => ?_) h
  simp only [putT, putU, putTs_map]
  refine kn_tup hn (by rw [List.length_map]; exact hl) fun p hm => ?_
  obtain ⟨q, hq, rfl⟩ := List.mem_map.mp hm
  exact ih q hq
theorem put_dep {f : List Nat → T} {B : Nat} (hf : ∀ x, dep (f x) ≤ B) {t : T} (h : kn t = true) : dep (putT f t) ≤ dep t + B := by
  refine kn_ind (P := fun t => dep (putT f t) ≤ dep t + B) (fun x hx => by simp only [putT]; have := hf x; omega) (fun n ps hn hl hp ih => ?_) h
  simp only [putT, putU, putTs_map, dep]
  have : deps (.str n :: ps.map (putT f)) ≤ deps (.str n :: ps) + B := deps_le fun t ht => by
    rcases List.mem_cons.mp ht with rfl | ht
    · simp only [dep]; omega
    · obtain ⟨q, hq, rfl⟩ := List.mem_map.mp ht
      have := ih q hq
      have := dep_mem (ts := .str n :: ps) (List.mem_cons_of_mem _ hq)
      omega
  omega
theorem lookup_pair {β : Type} : ∀ {l : List (List Nat × β)} {x : List Nat} {b : β}, l.lookup x = some b → (x, b) ∈ l
  | (n, v) :: l, x, b, h => by
    rw [List.lookup_cons] at h
    cases e : x == n with
    | true =>
      rw [e] at h
      cases h
      have e : x = n := by simpa using e
      subst e
      exact List.mem_cons_self
    | false =>
      rw [e] at h
      exact List.mem_cons_of_mem _ (lookup_pair h)
theorem SgOk.sub_kn {σ : Sg} (h : SgOk σ) {x : List Nat} (hx : nameOk x = true) : kn (sub σ x) = true := by
  unfold sub
  cases e : σ.lookup x with
  | none => simpa only [Option.getD_none, kn] using hx
  | some v =>
    exact h.kd _ (lookup_pair e)
theorem SgOk.sub_dep {σ : Sg} {B : Nat} (hb : ∀ p ∈ σ, dep p.2 ≤ B) (x : List Nat) : dep (sub σ x) ≤ B := by
  unfold sub
  cases e : σ.lookup x with
  | none => simp [dep]
  | some v => exact hb _ (lookup_pair e)
theorem lookup_of {σ : Sg} (nd : (σ.map (·.1)).Nodup) {p : List Nat × T} (h : p ∈ σ) : σ.lookup p.1 = some p.2 := by
  induction σ with
  | nil => cases h
  | cons q σ ih =>
    rw [List.map_cons, List.nodup_cons] at nd
    rw [List.lookup_cons]
    rcases List.mem_cons.mp h with rfl | h
    · simp
    · have : (p.1 == q.1) = false := by
        rw [beq_eq_false_iff_ne]
        exact fun e => nd.1 (e ▸ List.mem_map_of_mem h)
      rw [this]
      exact ih nd.2 h
theorem sub_perm {σ τ : Sg} (h : SgOk σ) (p : σ.Perm τ) (x : List Nat) : sub τ x = sub σ x := by
  have nd2 : (τ.map (·.1)).Nodup := (p.map (·.1)).nodup_iff.mp h.nd
  unfold sub
  cases e : τ.lookup x with
  | some v => rw [lookup_of h.nd (p.mem_iff.mpr (lookup_pair e))]
  | none =>
    cases e2 : σ.lookup x with
    | none => rfl
    | some v =>
      rw [lookup_of nd2 (p.mem_iff.mp (lookup_pair e2))] at e
      cases e
theorem SgOk.perm {σ τ : Sg} (h : SgOk σ) (p : σ.Perm τ) : SgOk τ :=
  ⟨(p.map (·.1)).nodup_iff.mp h.nd, fun q hq => h.nm q (p.mem_iff.mpr hq), fun q hq => h.kd q (p.mem_iff.mpr hq), by rw [← p.length_eq]; exact h.few⟩
theorem SgOk.behind {σ τ : Sg} (h : SgOk σ) (h2 : SgOk τ) (hl : σ.length + τ.length ≤ 4000) : SgOk (behind σ τ) := by
  refine ⟨?_, fun p hp => ?_, fun p hp => ?_, ?_⟩
  · unfold TR.behind
    rw [List.map_append, List.map_map, List.nodup_append]
    refine ⟨h.nd, h2.nd.sublist (List.filter_sublist.map _), fun a ha b hb e => ?_⟩
    obtain ⟨p, hp, rfl⟩ := List.mem_map.mp hb
    exact nin_iff.mp (List.mem_filter.mp hp).2 (e ▸ ha)
  · rcases List.mem_append.mp hp with hp | hp
    · obtain ⟨q, hq, rfl⟩ := List.mem_map.mp hp
      exact h.nm q hq
    · exact h2.nm p (List.mem_filter.mp hp).1
  · rcases List.mem_append.mp hp with hp | hp
    · obtain ⟨q, hq, rfl⟩ := List.mem_map.mp hp
      exact put_kn (fun x hx => h2.sub_kn hx) (h.kd q hq)
    · exact h2.kd p (List.mem_filter.mp hp).1
  · unfold TR.behind
    rw [List.length_append, List.length_map]
    have := List.length_filter_le (fun p : List Nat × T => nin (σ.map (·.1)) p.1) τ
    omega
/-- need: more than the kinds are deep -/
def co_behind (k : Nat) : Co := Co.of 2 (A := Sg × Sg) (fun a => [.tup (pairT a.1), .tup (pairT a.2)]) (fun a S => SgOk a.1 ∧ SgOk a.2 ∧ (∀ p ∈ a.1, dep p.2 + 2 ≤ k) ∧ 1 ≤ k) (fun a S r S' => Ex S S' ∧ r = .tup (pairT (behind a.1 a.2)))
theorem st_behind {W : Wd} {k : Nat} (h31 : W.Γ 31 = co_kind_put k) {σ τ : Sg} {S : Sta} {Q : T → Sta → Prop} (h1 : SgOk σ) (h2 : SgOk τ) (hd : ∀ p ∈ σ, dep p.2 + 1 ≤ k)
    (q : ∀ r S', Ex S S' ∧ r = .tup (pairT (behind σ τ)) → Q r S') : denS W b_law_behind_0 (En0 Q) [some (.tup (pairT σ)), some (.tup (pairT τ)), none, none, none, none] S := by
  have n1 : (pairT σ).length ≤ sizeLine := by rw [pairT, List.length_map, sizeLine_val]; have := h1.few; omega
  have n2 : (pairT τ).length ≤ sizeLine := by rw [pairT, List.length_map, sizeLine_val]; have := h2.few; omega
  simp only [b_law_behind_0, wLc2, wDc, wSk, shR, wZip, wsAug, wD2, denS, den, denA, denI, denO, denT, denG, denGs, wsSeq, wsN, wsIf, wsR, wsX, wsAsg, wsFld, wsBrk, wsCnt, wVar, wC, wTup, wLst, wDisp, wDict0, wOp, wChain, wAnd, wOr, wNot, wIf, wSl, wFld, wIsi, wCall, wBm, wApp, wMeth, wMethK, wNew, wNil, wCons, woN, woS, wgN, wgSub, wgTup, wgStar, wgNil, wgCons, wT, wYes, wLc, wIt, wRng1, wRng2, wsFor, wipeE, Bi.run, Bm.run, Bm.ty, List.getElem?_cons_zero, List.getElem?_cons_succ, List.set_cons_zero, List.set_cons_succ, Option.some.injEq, exists_eq_left', tru_bl, List.append_nil]
  refine iterW_tup (lcW_map (fun t => .str (pName t)) (fun S1 => Ex S S1) .rfl' (fun _ _ => trivial) n1 (fun y S1 hy x1 => ?_) (fun S1 x1 => ?_) (mono_den W x_law_behind_0_e0))
  · obtain ⟨p, hp, rfl⟩ := pairT_mem hy
    refine ⟨_, pair_seq _ _, ?_⟩
    simp only [x_law_behind_0_e0, wLc2, wDc, wSk, shR, wZip, wsAug, wD2, denS, den, denA, denI, denO, denT, denG, denGs, wsSeq, wsN, wsIf, wsR, wsX, wsAsg, wsFld, wsBrk, wsCnt, wVar, wC, wTup, wLst, wDisp, wDict0, wOp, wChain, wAnd, wOr, wNot, wIf, wSl, wFld, wIsi, wCall, wBm, wApp, wMeth, wMethK, wNew, wNil, wCons, woN, woS, wgN, wgSub, wgTup, wgStar, wgNil, wgCons, wT, wYes, wLc, wIt, wRng1, wRng2, wsFor, wipeE, Bi.run, Bm.run, Bm.ty, List.getElem?_cons_zero, List.getElem?_cons_succ, List.set_cons_zero, List.set_cons_succ, Option.some.injEq, exists_eq_left', tru_bl, List.append_nil]
    exact ⟨rfl, x1⟩
  have e0 : (pairT σ).map (fun t => T.str (pName t)) = stL (σ.map (·.1)) := by simp [pairT, List.map_map, Function.comp_def, pName]
  rw [e0]
  have e1 : (S1 ++ [Cell.lst (stL (σ.map (·.1)))])[S1.length]? = some (.lst (stL (σ.map (·.1)))) := get_new
  have x2 : Ex S (S1 ++ [Cell.lst (stL (σ.map (·.1)))]) := x1.trans' .app
  generalize S1 ++ [Cell.lst (stL (σ.map (·.1)))] = S2 at e1 x2 ⊢
  generalize S1.length = l1 at e1 ⊢
  simp only [b_law_behind_1, wLc2, wDc, wSk, shR, wZip, wsAug, wD2, denS, den, denA, denI, denO, denT, denG, denGs, wsSeq, wsN, wsIf, wsR, wsX, wsAsg, wsFld, wsBrk, wsCnt, wVar, wC, wTup, wLst, wDisp, wDict0, wOp, wChain, wAnd, wOr, wNot, wIf, wSl, wFld, wIsi, wCall, wBm, wApp, wMeth, wMethK, wNew, wNil, wCons, woN, woS, wgN, wgSub, wgTup, wgStar, wgNil, wgCons, wT, wYes, wLc, wIt, wRng1, wRng2, wsFor, wipeE, Bi.run, Bm.run, Bm.ty, List.getElem?_cons_zero, List.getElem?_cons_succ, List.set_cons_zero, List.set_cons_succ, Option.some.injEq, exists_eq_left', tru_bl, List.append_nil]
  refine iterW_tup (lcW_map (fun t => .tup [.str (pName t), putT (sub τ) (pVal t)]) (fun S3 => Ex S2 S3) .rfl' (fun _ _ => trivial) n1 (fun y S3 hy x3 => ?_) (fun S3 x3 => ?_) (mono_den W x_law_behind_1_e0))
  · obtain ⟨p, hp, rfl⟩ := pairT_mem hy
    refine ⟨_, pair_seq _ _, ?_⟩
    simp only [x_law_behind_1_e0, wLc2, wDc, wSk, shR, wZip, wsAug, wD2, denS, den, denA, denI, denO, denT, denG, denGs, wsSeq, wsN, wsIf, wsR, wsX, wsAsg, wsFld, wsBrk, wsCnt, wVar, wC, wTup, wLst, wDisp, wDict0, wOp, wChain, wAnd, wOr, wNot, wIf, wSl, wFld, wIsi, wCall, wBm, wApp, wMeth, wMethK, wNew, wNil, wCons, woN, woS, wgN, wgSub, wgTup, wgStar, wgNil, wgCons, wT, wYes, wLc, wIt, wRng1, wRng2, wsFor, wipeE, Bi.run, Bm.run, Bm.ty, List.getElem?_cons_zero, List.getElem?_cons_succ, List.set_cons_zero, List.set_cons_succ, Option.some.injEq, exists_eq_left', tru_bl, List.append_nil, h31]
    refine ⟨rfl, (p.2, τ), rfl, ⟨h1.kd p hp, h2, hd p hp⟩, fun r S4 z => ?_⟩
    obtain ⟨x4, rfl⟩ := z
    exact ⟨by simp [sizeLine_val], rfl, x3.trans' x4⟩
  have e2 : (pairT σ).map (fun t => T.tup [.str (pName t), putT (sub τ) (pVal t)]) = pairT (σ.map fun p => (p.1, putT (sub τ) p.2)) := by simp [pairT, List.map_map, Function.comp_def, pName, pVal]
  rw [e2]
  have e3 : (S3 ++ [Cell.lst (pairT (σ.map fun p => (p.1, putT (sub τ) p.2)))])[S3.length]? = some (.lst (pairT (σ.map fun p => (p.1, putT (sub τ) p.2)))) := get_new
  have e4 := (x3.trans' (.app (G := [Cell.lst (pairT (σ.map fun p => (p.1, putT (sub τ) p.2)))]))).get e1
  have x4 : Ex S (S3 ++ [Cell.lst (pairT (σ.map fun p => (p.1, putT (sub τ) p.2)))]) := (x2.trans' x3).trans' .app
  generalize S3 ++ [Cell.lst (pairT (σ.map fun p => (p.1, putT (sub τ) p.2)))] = S4 at e3 e4 x4 ⊢
  generalize S3.length = l3 at e3 ⊢
  simp only [b_law_behind_2, wLc2, wDc, wSk, shR, wZip, wsAug, wD2, denS, den, denA, denI, denO, denT, denG, denGs, wsSeq, wsN, wsIf, wsR, wsX, wsAsg, wsFld, wsBrk, wsCnt, wVar, wC, wTup, wLst, wDisp, wDict0, wOp, wChain, wAnd, wOr, wNot, wIf, wSl, wFld, wIsi, wCall, wBm, wApp, wMeth, wMethK, wNew, wNil, wCons, woN, woS, wgN, wgSub, wgTup, wgStar, wgNil, wgCons, wT, wYes, wLc, wIt, wRng1, wRng2, wsFor, wipeE, Bi.run, Bm.run, Bm.ty, List.getElem?_cons_zero, List.getElem?_cons_succ, List.set_cons_zero, List.set_cons_succ, Option.some.injEq, exists_eq_left', tru_bl, List.append_nil]
  have ok1 : ∀ y ∈ σ.map (·.1), nameOk y = true := fun y hy => by
    obtain ⟨p, hp, rfl⟩ := List.mem_map.mp hy
    exact h1.nm p hp
  refine iterW_tup (lcW_fm (fun t => nin (σ.map (·.1)) (pName t)) id (fun S5 => Ex S4 S5) .rfl' (fun _ _ => trivial) n2 (mono_denT W x_law_behind_2_c0) (mono_den W x_law_behind_2_e0) (fun y S5 hy x5 => ?_) (fun S5 x5 => ?_))
  · obtain ⟨p, hp, rfl⟩ := pairT_mem hy
    refine ⟨_, pair_seq _ _, ?_⟩
    simp only [x_law_behind_2_c0, x_law_behind_2_e0, wLc2, wDc, wSk, shR, wZip, wsAug, wD2, denS, den, denA, denI, denO, denT, denG, denGs, wsSeq, wsN, wsIf, wsR, wsX, wsAsg, wsFld, wsBrk, wsCnt, wVar, wC, wTup, wLst, wDisp, wDict0, wOp, wChain, wAnd, wOr, wNot, wIf, wSl, wFld, wIsi, wCall, wBm, wApp, wMeth, wMethK, wNew, wNil, wCons, woN, woS, wgN, wgSub, wgTup, wgStar, wgNil, wgCons, wT, wYes, wLc, wIt, wRng1, wRng2, wsFor, wipeE, Bi.run, Bm.run, Bm.ty, List.getElem?_cons_zero, List.getElem?_cons_succ, List.set_cons_zero, List.set_cons_succ, Option.some.injEq, exists_eq_left', tru_bl, List.append_nil]
    refine notin_names (x5.get e4) ok1 (h2.nm p hp) ?_
    rw [tru_bl]
    exact ⟨rfl, x5, fun _ => ⟨by simp [sizeLine_val], rfl, x5⟩⟩
  have e5 : ((pairT τ).filter fun t => nin (σ.map (·.1)) (pName t)).map id = pairT (τ.filter fun p => nin (σ.map (·.1)) p.1) := by
    rw [List.map_id, pairT, List.filter_map]
    rfl
  rw [e5]
  have hfl := List.length_filter_le (fun p : List Nat × T => nin (σ.map (·.1)) p.1) τ
  refine bin_lst (get_app (x5.get e3)) get_new (by rw [pairT, pairT, List.length_map, List.length_map, List.length_map]; have := h1.few; have := h2.few; omega) ?_
  refine gTuple_new (q _ _ ⟨((x4.trans' x5).trans' .app).trans' .app, ?_⟩)
  simp only [behind, pairT, List.map_append]
end TR
set_option Elab.async false
set_option linter.all false
set_option maxRecDepth 100000
set_option maxHeartbeats 2000000
/-! TK22: pairs drawn. -/
namespace TR
open PySem PySem.Spec L2
open PyProof.Rows hiding St

/-- need: dep t + 3 -/
def co_pairs (k : Nat) : Co := Co.of 3 (A := Nat × Nat × Wn × T) (fun a => [.obj a.1, .obj a.2.1, a.2.2.2]) (fun a S => PoolAt S a.1 ∧ S[a.2.1]? = some (.dct (kvs a.2.2.1)) ∧ WnOk 7 a.2.2.1 ∧ kn a.2.2.2 = true ∧ (namesT a.2.2.2).length ≤ 4000 ∧ dep a.2.2.2 + 5 ≤ k)
  (fun a S r S' => Pc a.1 S S' ∧ PoolAt S' a.1 ∧ ∃ σ, r = .tup (pairT σ) ∧ SgOk σ ∧ σ.length ≤ 5 ∧ ∀ p ∈ σ, dep p.2 ≤ 1)
theorem pool_ne {S : Sta} {p l : Nat} {xs : List T} (hp : PoolAt S p) (hl : S[l]? = some (.lst xs)) (hx : ∀ a, .int a ∉ xs) : l ≠ p := fun e => by
  subst e
  obtain ⟨a, b, c, e⟩ := hp
  rw [hl] at e
  cases e
  exact hx a List.mem_cons_self
theorem cut_two {α : Type} (xs : List α) : cutL xs none (some 2) = xs.take 2 := by
  unfold cutL HT.sIx
  simp
theorem st_pairs {W : Wd} {k : Nat} (h6 : W.Γ 6 = co_some_kind k) (h11 : W.Γ 11 = co_names k) (h12 : W.Γ 12 = co_take) (h27 : W.Γ 27 = co_gath k) {p d : Nat} {ws : Wn} {t : T} {S : Sta} {Q : T → Sta → Prop} (hp : PoolAt S p) (hdc : S[d]? = some (.dct (kvs ws))) (hws : WnOk 7 ws) (hk : kn t = true) (h8 : (namesT t).length ≤ 4000) (hd : dep t + 4 ≤ k)
    (q : ∀ r S', (Pc p S S' ∧ PoolAt S' p ∧ ∃ σ, r = .tup (pairT σ) ∧ SgOk σ ∧ σ.length ≤ 5 ∧ ∀ p ∈ σ, dep p.2 ≤ 1) → Q r S') :
    denS W b_law_pairs_0 (En0 Q) [some (.obj p), some (.obj d), some t, none, none, none, none, none, none] S := by
  have hdp : d ≠ p := nd_dct hp hdc
  simp only [b_law_pairs_0, wLc2, wDc, wSk, shR, wZip, wsAug, wD2, denS, den, denA, denI, denO, denT, denG, denGs, wsSeq, wsN, wsIf, wsR, wsX, wsAsg, wsFld, wsBrk, wsCnt, wVar, wC, wTup, wLst, wDisp, wDict0, wOp, wChain, wAnd, wOr, wNot, wIf, wSl, wFld, wIsi, wCall, wBm, wApp, wMeth, wMethK, wNew, wNil, wCons, woN, woS, wgN, wgSub, wgTup, wgStar, wgNil, wgCons, wT, wYes, wLc, wIt, wRng1, wRng2, wsFor, wipeE, Bi.run, Bm.run, Bm.ty, List.getElem?_cons_zero, List.getElem?_cons_succ, List.set_cons_zero, List.set_cons_succ, Option.some.injEq, exists_eq_left', tru_bl, List.append_nil, h11, h27]
  refine ⟨rfl, t, rfl, ⟨hk, h8, by omega⟩, fun r S1 z => ?_⟩
  obtain ⟨x1, l, rfl, ll, el⟩ := z
  have p1 := hp.ex x1
  refine ⟨rfl, p, rfl, ⟨p1, by omega⟩, fun r S2 z => ?_⟩
  obtain ⟨x2, p2, l2, rfl, ll2, xs, el2, hx12, hxs⟩ := z
  have x2 : Pc p S1 S2 := x2
  have hlp : l ≠ p := pool_ne p1 el (fun a h => by obtain ⟨_, _, e⟩ := List.mem_map.mp h; cases e)
  have el' := x2.get el hlp
  simp only [slG, el2, cut_two]
  have e3 : (S2 ++ [Cell.lst ((xs.map T.str).take 2)])[S2.length]? = some (.lst ((xs.map T.str).take 2)) := get_new
  have gl := gath_le hk h8
  refine bin_lst (get_app el') e3 (by rw [stL, List.length_map, List.length_take]; omega) ?_
  obtain ⟨ns, hns⟩ : ∃ ns : List (List Nat), stL (gathT t) ++ (xs.map T.str).take 2 = stL ns ∧ (∀ x ∈ ns, nameOk x = true) ∧ 1 ≤ ns.length ∧ ns.length ≤ 5000 := by
    refine ⟨gathT t ++ xs.take 2, by rw [stL, stL, List.map_append, List.map_take], fun x hx => ?_, ?_, ?_⟩
    · rcases List.mem_append.mp hx with hx | hx
      · exact gath_ok hk x hx
      · exact hxs x (List.mem_of_mem_take hx)
    · rw [List.length_append, List.length_take]; omega
    · rw [List.length_append, List.length_take]; omega
  obtain ⟨ens, okn, n1, n2⟩ := hns
  rw [ens]
  have y1 : Pc p S (S2 ++ [Cell.lst ((xs.map T.str).take 2)]) := (x1.ch.trans x2 fun _ _ z => z).trans (Ch.app (w := fun _ => False)) fun _ _ z => z.elim
  have p3 : PoolAt (S2 ++ [Cell.lst ((xs.map T.str).take 2)]) p := p2.ex .app
  generalize S2 ++ [Cell.lst ((xs.map T.str).take 2)] = S3 at y1 p3 ⊢
  have e4 : (S3 ++ [Cell.lst (stL ns)])[S3.length]? = some (.lst (stL ns)) := get_new
  have y2 : Pc p S (S3 ++ [Cell.lst (stL ns)]) := y1.trans (Ch.app (w := fun _ => False)) fun _ _ z => z.elim
  have p4 : PoolAt (S3 ++ [Cell.lst (stL ns)]) p := p3.ex .app
  generalize S3 ++ [Cell.lst (stL ns)] = S4 at e4 y2 p4 ⊢
  generalize S3.length = nl at e4 ⊢
  have hnp : nl ≠ p := pool_ne p4 e4 (fun a h => by obtain ⟨_, _, e⟩ := List.mem_map.mp h; cases e)
  simp only [b_law_pairs_1, wLc2, wDc, wSk, shR, wZip, wsAug, wD2, denS, den, denA, denI, denO, denT, denG, denGs, wsSeq, wsN, wsIf, wsR, wsX, wsAsg, wsFld, wsBrk, wsCnt, wVar, wC, wTup, wLst, wDisp, wDict0, wOp, wChain, wAnd, wOr, wNot, wIf, wSl, wFld, wIsi, wCall, wBm, wApp, wMeth, wMethK, wNew, wNil, wCons, woN, woS, wgN, wgSub, wgTup, wgStar, wgNil, wgCons, wT, wYes, wLc, wIt, wRng1, wRng2, wsFor, wipeE, Bi.run, Bm.run, Bm.ty, List.getElem?_cons_zero, List.getElem?_cons_succ, List.set_cons_zero, List.set_cons_succ, Option.some.injEq, exists_eq_left', tru_bl, List.append_nil]
  refine ⟨by simp, ?_⟩
  have e5 : (S4 ++ [Cell.lst []])[S4.length]? = some (.lst (pairT [])) := get_new
  have y3 : Pc p S (S4 ++ [Cell.lst []]) := y2.trans (Ch.app (w := fun _ => False)) fun _ _ z => z.elim
  have p5 : PoolAt (S4 ++ [Cell.lst []]) p := p4.ex .app
  have e4' : (S4 ++ [Cell.lst []])[nl]? = some (.lst (stL ns)) := get_app e4
  have hpl4 : p < S4.length := by obtain ⟨_, _, _, e⟩ := p4; exact lt_of_some e
  have hnl4 := lt_of_some e4
  have hSl : S.length ≤ S4.length := y2.len
  generalize S4 ++ [Cell.lst []] = S5 at e5 y3 p5 e4' ⊢
  generalize S4.length = pl at e5 hpl4 hnl4 hSl ⊢
  have hdl := lt_of_some hdc
  simp only [b_law_pairs_2, wLc2, wDc, wSk, shR, wZip, wsAug, wD2, denS, den, denA, denI, denO, denT, denG, denGs, wsSeq, wsN, wsIf, wsR, wsX, wsAsg, wsFld, wsBrk, wsCnt, wVar, wC, wTup, wLst, wDisp, wDict0, wOp, wChain, wAnd, wOr, wNot, wIf, wSl, wFld, wIsi, wCall, wBm, wApp, wMeth, wMethK, wNew, wNil, wCons, woN, woS, wgN, wgSub, wgTup, wgStar, wgNil, wgCons, wT, wYes, wLc, wIt, wRng1, wRng2, wsFor, wipeE, Bi.run, Bm.run, Bm.ty, List.getElem?_cons_zero, List.getElem?_cons_succ, List.set_cons_zero, List.set_cons_succ, Option.some.injEq, exists_eq_left', tru_bl, List.append_nil, h12]
  refine do_take p5 (by decide) (by decide) fun i S6 x6 p6 a6 b6 => ?_
  refine ⟨by omega, by omega, ?_⟩
  have y6 : Pc p S S6 := y3.trans x6 fun _ _ z => z
  refine forW_by (fun j ρ S' => Ch (fun i => i = p ∨ i = pl) S S' ∧ PoolAt S' p ∧ S'[nl]? = some (.lst (stL ns)) ∧ ∃ σ o5 o6 o7 o8, S'[pl]? = some (.lst (pairT σ)) ∧ SgOk σ ∧ σ.length ≤ j ∧ (∀ p ∈ σ, dep p.2 ≤ 1) ∧ ρ = [some (.obj p), some (.obj d), some t, some (.obj nl), some (.obj pl), o5, o6, o7, o8])
    ⟨y6.mono fun _ _ z => .inl z, p6, x6.get e4' hnp, [], _, _, _, _, x6.get e5 (by omega), ⟨List.nodup_nil, fun _ h => absurd h List.not_mem_nil, fun _ h => absurd h List.not_mem_nil, by simp⟩, by simp, fun _ h => absurd h List.not_mem_nil, rfl⟩ (fun _ _ _ _ => trivial) (fun j x ρ S7 e z => ?_) (fun ρ S7 z => ?_) (mono_denS W _)
  · obtain ⟨y7, p7, n7, σ, o5, o6, o7, o8, e7, ok7, l7, d7, rfl⟩ := z
    obtain ⟨rfl, hj⟩ := rng_mem e
    have hj : j < 5 := by omega
    refine ⟨_, bd_nm _ _ _ _, ?_⟩
    simp only [b_law_pairs_2l_0, wLc2, wDc, wSk, shR, wZip, wsAug, wD2, denS, den, denA, denI, denO, denT, denG, denGs, wsSeq, wsN, wsIf, wsR, wsX, wsAsg, wsFld, wsBrk, wsCnt, wVar, wC, wTup, wLst, wDisp, wDict0, wOp, wChain, wAnd, wOr, wNot, wIf, wSl, wFld, wIsi, wCall, wBm, wApp, wMeth, wMethK, wNew, wNil, wCons, woN, woS, wgN, wgSub, wgTup, wgStar, wgNil, wgCons, wT, wYes, wLc, wIt, wRng1, wRng2, wsFor, wipeE, Bi.run, Bm.run, Bm.ty, List.getElem?_cons_zero, List.getElem?_cons_succ, List.set_cons_zero, List.set_cons_succ, Option.some.injEq, exists_eq_left', tru_bl, List.append_nil, h12]
    refine gLen_lst n7 (do_take p7 (by rw [stL, List.length_map]; omega) (by rw [stL, List.length_map]; omega) fun i2 S8 x8 p8 a8 b8 => ?_)
    have n8 := x8.get n7 hnp
    have e8 := x8.get e7 (show ¬ pl = p by omega)
    have y8 : Ch (fun i => i = p ∨ i = pl) S S8 := y7.trans x8 fun _ _ z => .inl z
    obtain ⟨u, hu, hm⟩ := atI_int (xs := stL ns) a8 b8
    obtain ⟨y, hy, rfl⟩ := List.mem_map.mp hm
    have oky := okn y hy
    refine ixG_lst n8 hu ?_
    simp only [b_law_pairs_2l_1, wLc2, wDc, wSk, shR, wZip, wsAug, wD2, denS, den, denA, denI, denO, denT, denG, denGs, wsSeq, wsN, wsIf, wsR, wsX, wsAsg, wsFld, wsBrk, wsCnt, wVar, wC, wTup, wLst, wDisp, wDict0, wOp, wChain, wAnd, wOr, wNot, wIf, wSl, wFld, wIsi, wCall, wBm, wApp, wMeth, wMethK, wNew, wNil, wCons, woN, woS, wgN, wgSub, wgTup, wgStar, wgNil, wgCons, wT, wYes, wLc, wIt, wRng1, wRng2, wsFor, wipeE, Bi.run, Bm.run, Bm.ty, List.getElem?_cons_zero, List.getElem?_cons_succ, List.set_cons_zero, List.set_cons_succ, Option.some.injEq, exists_eq_left', tru_bl, List.append_nil]
    refine iterW_lst e8 (lcW_map (fun t => .str (pName t)) (fun S9 => Ex S8 S9) .rfl' (fun S9 x => x.get e8) (by rw [pairT, List.length_map, sizeLine_val]; have := ok7.few; omega) (fun w S9 hw x9 => ?_) (fun S9 x9 => ?_) (mono_den W x_law_pairs_2l_1_e0))
    · obtain ⟨pr, hpr, rfl⟩ := pairT_mem hw
      refine ⟨_, pair_seq _ _, ?_⟩
      simp only [x_law_pairs_2l_1_e0, wLc2, wDc, wSk, shR, wZip, wsAug, wD2, denS, den, denA, denI, denO, denT, denG, denGs, wsSeq, wsN, wsIf, wsR, wsX, wsAsg, wsFld, wsBrk, wsCnt, wVar, wC, wTup, wLst, wDisp, wDict0, wOp, wChain, wAnd, wOr, wNot, wIf, wSl, wFld, wIsi, wCall, wBm, wApp, wMeth, wMethK, wNew, wNil, wCons, woN, woS, wgN, wgSub, wgTup, wgStar, wgNil, wgCons, wT, wYes, wLc, wIt, wRng1, wRng2, wsFor, wipeE, Bi.run, Bm.run, Bm.ty, List.getElem?_cons_zero, List.getElem?_cons_succ, List.set_cons_zero, List.set_cons_succ, Option.some.injEq, exists_eq_left', tru_bl, List.append_nil]
      exact ⟨rfl, x9⟩
    have e0 : (pairT σ).map (fun t => T.str (pName t)) = stL (σ.map (·.1)) := by simp [pairT, List.map_map, Function.comp_def, pName]
    rw [e0]
    have ok1 : ∀ y ∈ σ.map (·.1), nameOk y = true := fun y hy => by
      obtain ⟨pr, hpr, rfl⟩ := List.mem_map.mp hy
      exact ok7.nm pr hpr
    have y10 : Ch (fun i => i = p ∨ i = pl) S (S9 ++ [Cell.lst (stL (σ.map (·.1)))]) := (y8.trans x9 fun _ _ z => z.elim).trans (Ch.app (w := fun _ => False)) fun _ _ z => z.elim
    have p10 : PoolAt (S9 ++ [Cell.lst (stL (σ.map (·.1)))]) p := (p8.ex x9).ex .app
    have n10 : (S9 ++ [Cell.lst (stL (σ.map (·.1)))])[nl]? = some (.lst (stL ns)) := get_app (x9.get n8)
    have e10 : (S9 ++ [Cell.lst (stL (σ.map (·.1)))])[pl]? = some (.lst (pairT σ)) := get_app (x9.get e8)
    have m10 : (S9 ++ [Cell.lst (stL (σ.map (·.1)))])[S9.length]? = some (.lst (stL (σ.map (·.1)))) := get_new
    generalize S9 ++ [Cell.lst (stL (σ.map (·.1)))] = S10 at y10 p10 n10 e10 m10 ⊢
    refine notin_names m10 ok1 oky ?_
    rw [tru_bl]
    cases hnin : nin (σ.map (·.1)) y with
    | false =>
      rw [if_neg Bool.false_ne_true]
      exact ⟨y10, p10, n10, σ, _, _, _, _, e10, ok7, by omega, d7, rfl⟩
    | true =>
      rw [if_pos rfl]
      simp only [mtyOf_lst e10, h6, true_and]
      have d10 := y10.get hdc (show ¬ (d = p ∨ d = pl) by omega)
      refine ⟨rfl, (p, d, ws, 1), rfl, ⟨p10, d10, hws, (show 1 + 2 ≤ k by omega)⟩, fun v S11 z => ?_⟩
      obtain ⟨x11, p11, kv, wv, dv⟩ := z
      have x11 : Pc p S10 S11 := x11
      have kv : kindT ws v = true := kv
      have e11 := x11.get e10 (show ¬ pl = p by omega)
      have n11 := x11.get n10 hnp
      have y11 : Ch (fun i => i = p ∨ i = pl) S S11 := y10.trans x11 fun _ _ z => .inl z
      refine ⟨by simp [sizeLine_val], gAppend_ok e11 (by rw [pairT, List.length_map]; omega) ?_⟩
      have x12 : Ch (fun i => i = pl) S11 (S11.set pl (.lst (pairT σ ++ [.tup [.str y, v]]))) := Ch.set (fun _ => rfl) (by rw [e11]; rfl)
      have np := nin_iff.mp hnin
      refine ⟨y11.trans x12 fun _ _ z => .inr z, p11.ch x12 (by omega), x12.get n11 (by omega), σ ++ [(y, v)], _, _, _, _, ?_, ⟨?_, fun pr hpr => ?_, fun pr hpr => ?_, ?_⟩, ?_, fun pr hpr => ?_, rfl⟩
      · rw [get_set e11, pairT, pairT, List.map_append]
        rfl
      · rw [List.map_append, List.nodup_append]
        refine ⟨ok7.nd, by simp, fun a ha b hb e => ?_⟩
        simp at hb
        subst hb
        subst e
        exact np ha
      · rcases List.mem_append.mp hpr with h | h
        · exact ok7.nm pr h
        · rw [List.mem_singleton.mp h]; exact oky
      · rcases List.mem_append.mp hpr with h | h
        · exact ok7.kd pr h
        · rw [List.mem_singleton.mp h]; exact kn_of_kind hws kv
      · rw [List.length_append, List.length_singleton]; omega
      · rw [List.length_append, List.length_singleton]; omega
      · rcases List.mem_append.mp hpr with h | h
        · exact d7 pr h
        · rw [List.mem_singleton.mp h]; exact dv
  · obtain ⟨y7, p7, n7, σ, o5, o6, o7, o8, e7, ok7, l7, d7, rfl⟩ := z
    rw [rng_len] at l7
    simp only [b_law_pairs_3, wLc2, wDc, wSk, shR, wZip, wsAug, wD2, denS, den, denA, denI, denO, denT, denG, denGs, wsSeq, wsN, wsIf, wsR, wsX, wsAsg, wsFld, wsBrk, wsCnt, wVar, wC, wTup, wLst, wDisp, wDict0, wOp, wChain, wAnd, wOr, wNot, wIf, wSl, wFld, wIsi, wCall, wBm, wApp, wMeth, wMethK, wNew, wNil, wCons, woN, woS, wgN, wgSub, wgTup, wgStar, wgNil, wgCons, wT, wYes, wLc, wIt, wRng1, wRng2, wsFor, wipeE, Bi.run, Bm.run, Bm.ty, List.getElem?_cons_zero, List.getElem?_cons_succ, List.set_cons_zero, List.set_cons_succ, Option.some.injEq, exists_eq_left', tru_bl, List.append_nil, gTuple, e7]
    refine q _ _ ⟨⟨y7.len, fun i hi n => y7.at_ i hi fun z => z.elim n (by omega), y7.kd⟩, p7, σ, rfl, ok7, by omega, d7⟩
end TR
set_option Elab.async false
set_option linter.all false
set_option maxRecDepth 100000
set_option maxHeartbeats 2000000
/-! TK23: the third law's text. -/
namespace TR
open PySem PySem.Spec L2
open PyProof.Rows hiding St

/-- all that the law's text calls -/
structure Calls3 (W : Wd) (k : Nat) : Prop where
  h1 : W.Γ 1 = co_pool
  h2 : W.Γ 2 = co_cell
  h3 : W.Γm 3 = co_init (k + 19)
  h5 : W.Γ 5 = co_wanting (k + 20)
  h6 : W.Γ 6 = co_some_kind (k + 20)
  h21 : W.Γ 21 = co_same (k + 20)
  h26 : W.Γ 26 = co_variables (k + 20)
  h27 : W.Γ 27 = co_gath (k + 20)
  h28 : W.Γ 28 = co_pairs (k + 20)
  h30 : W.Γ 30 = co_put_kinds (k + 20)
  h31 : W.Γ 31 = co_kind_put (k + 20)
  h32 : W.Γ 32 = co_behind (k + 20)
theorem do_same {k : Nat} {t : T} {S : Sta} {K : T → Sta → Prop} (hs : stT t = true) (hw : wf [] t = true) (hd : dep t + 1 ≤ k) (q : ∀ S', Ex S S' → K (.bl true) S') : [t, t].length = (co_same k).n ∧ (co_same k).run [t, t] S K :=
  ⟨rfl, t, rfl, ⟨hs, hw, hd⟩, fun r S' z => by
    obtain ⟨x, rfl⟩ := z
    exact q S' x⟩
theorem do_put {k : Nat} {t : T} {σ : Sg} {S : Sta} {K : T → Sta → Prop} (hk : kn t = true) (ho : SgOk σ) (hd : dep t + 2 ≤ k) (q : ∀ S', Ex S S' → K (putT (sub σ) t) S') : [t, .tup (pairT σ)].length = (co_put_kinds k).n ∧ (co_put_kinds k).run [t, .tup (pairT σ)] S K :=
  ⟨rfl, (t, σ), rfl, ⟨hk, ho, hd⟩, fun r S' z => by
    obtain ⟨x, rfl⟩ := z
    exact q S' x⟩
theorem do_kput {k : Nat} {t : T} {σ : Sg} {S : Sta} {K : T → Sta → Prop} (hk : kn t = true) (ho : SgOk σ) (hd : dep t + 1 ≤ k) (q : ∀ S', Ex S S' → K (putT (sub σ) t) S') : [t, .tup (pairT σ)].length = (co_kind_put k).n ∧ (co_kind_put k).run [t, .tup (pairT σ)] S K :=
  ⟨rfl, (t, σ), rfl, ⟨hk, ho, hd⟩, fun r S' z => by
    obtain ⟨x, rfl⟩ := z
    exact q S' x⟩
theorem stL_st (ys : List (List Nat)) : stT (.tup (stL ys)) = true := by
  simp only [stT]
  rw [stTs_all]
  refine List.all_eq_true.mpr fun t ht => ?_
  obtain ⟨y, _, rfl⟩ := List.mem_map.mp ht
  rfl
theorem stL_wf {ys : List (List Nat)} (h : ∀ y ∈ ys, nameOk y = true) (hl : ys.length ≤ 16777216) : wf [] (.tup (stL ys)) = true := by
  refine wf_tup.mpr ⟨by rw [stL, List.length_map]; exact hl, wfs_of fun t ht => ?_⟩
  obtain ⟨y, hy, rfl⟩ := List.mem_map.mp ht
  exact wf_name (h y hy)
theorem stL_dep (ys : List (List Nat)) : dep (.tup (stL ys)) ≤ 1 := by
  simp only [dep]
  have : deps (stL ys) ≤ 0 := deps_le fun t ht => by
    obtain ⟨y, _, rfl⟩ := List.mem_map.mp ht
    simp [dep]
  omega
theorem gSorted_lst {S : Sta} {l : Nat} {zs : List (List Nat)} {Q : T → Sta → Prop} (h : S[l]? = some (.lst (stL zs))) (q : ∀ ys : List (List Nat), ys.Perm zs → sortedS (ys.map mkS) = true → Q (.obj S.length) (S ++ [.lst (ys.map .str)])) : gSorted [.obj l] S Q := by
  simp only [gSorted, h]
  exact ⟨zs, strsOf_map zs, q⟩
theorem perm_of_mem {a b : List (List Nat)} (ha : a.Nodup) (hb : b.Nodup) (h : ∀ x, x ∈ a ↔ x ∈ b) : a.Perm b := by
  induction a generalizing b with
  | nil =>
    cases b with
    | nil => exact List.Perm.refl _
    | cons y b => exact absurd ((h y).mpr List.mem_cons_self) List.not_mem_nil
  | cons x a ih =>
    obtain ⟨h1, h2⟩ := List.nodup_cons.mp ha
    have hx := (h x).mp List.mem_cons_self
    have p1 := List.perm_cons_erase hx
    refine List.Perm.trans (List.Perm.cons x (ih h2 (hb.erase x) fun y => ?_)) p1.symm
    rw [hb.mem_erase_iff]
    constructor
    · exact fun hy => ⟨fun e => h1 (e ▸ hy), (h y).mp (List.mem_cons_of_mem _ hy)⟩
    · rintro ⟨n, hy⟩
      exact (List.mem_cons.mp ((h y).mpr hy)).resolve_left n
section
variable {W : Wd} {k : Nat} {ns : List Int} {p d : Nat} {ws : Wn}
abbrev L3 (ns : List Int) (o1 : Option T) (p d : Nat) (o4 o5 o6 o7 o8 o9 o10 : Option T) : Ev := [some (.frz (ns.map .int)), o1, some (.obj p), some (.obj d), o4, o5, o6, o7, o8, o9, o10]
/-- the last looks -/
theorem law3_b (C : Calls3 W k) {D : En} {o1 o4 o5 o10 : Option T} {t u : T} {σ τ : Sg} {S : Sta} (kt : kn t = true) (ku : kn u = true) (dt : dep t ≤ 2) (du : dep u ≤ 1) (hσ : SgOk σ) (hτ : SgOk τ) (lσ : σ.length ≤ 5) (lτ : τ.length ≤ 5) (dσ : ∀ p ∈ σ, dep p.2 ≤ 1) (dτ : ∀ p ∈ τ, dep p.2 ≤ 1) (hn : (namesT t).length ≤ 4000)
    (q : ∀ S' o5, Ex S S' → D.nx (L3 ns o1 p d o4 o5 (some t) (some u) (some (.tup (pairT σ))) (some (.tup (pairT τ))) o10) S') :
    denS W b_law_k03_0l_2l_3 D (L3 ns o1 p d o4 o5 (some t) (some u) (some (.tup (pairT σ))) (some (.tup (pairT τ))) o10) S := by
  have st : ∀ {f : List Nat → T}, (∀ x, nameOk x = true → kn (f x) = true) → ∀ {v : T}, kn v = true → stT (putT f v) = true ∧ wf [] (putT f v) = true := fun hf v hv => ⟨kn_st (put_kn hf hv), kn_wf (put_kn hf hv)⟩
  have kσ := fun x hx => hσ.sub_kn (x := x) hx
  have kτ := fun x hx => hτ.sub_kn (x := x) hx
  have Dσ := fun {v : T} (hv : kn v = true) => put_dep (f := sub σ) (B := 1) (SgOk.sub_dep dσ) hv
  have Dτ := fun {v : T} (hv : kn v = true) => put_dep (f := sub τ) (B := 1) (SgOk.sub_dep dτ) hv
  have d1 := Dσ kt
  have d2 := Dσ ku
  have d3 := Dτ kt
  have d4 := Dτ (put_kn kσ ku)
  simp only [b_law_k03_0l_2l_3, wLc2, wDc, wSk, shR, wZip, wsAug, wD2, denS, den, denA, denI, denO, denT, denG, denGs, wsSeq, wsN, wsIf, wsR, wsX, wsAsg, wsFld, wsBrk, wsCnt, wVar, wC, wTup, wLst, wDisp, wDict0, wOp, wChain, wAnd, wOr, wNot, wIf, wSl, wFld, wIsi, wCall, wBm, wApp, wMeth, wMethK, wNew, wNil, wCons, woN, woS, wgN, wgSub, wgTup, wgStar, wgNil, wgCons, wT, wYes, wLc, wIt, wRng1, wRng2, wsFor, wipeE, Bi.run, Bm.run, Bm.ty, List.getElem?_cons_zero, List.getElem?_cons_succ, List.set_cons_zero, List.set_cons_succ, Option.some.injEq, exists_eq_left', tru_bl, List.append_nil, C.h21, C.h30, C.h31]
  refine do_put kt hσ (by omega) fun S1 x1 => ?_
  refine do_kput kt hσ (by omega) fun S2 x2 => ?_
  refine do_same (st kσ kt).1 (st kσ kt).2 (by omega) fun S3 x3 => ?_
  simp only [Bool.not_true, tru_bl, Bool.false_eq_true, if_false]
  have y3 := (x1.trans' x2).trans' x3
  -- in another turn
  simp only [b_law_k03_0l_2l_4, wLc2, wDc, wSk, shR, wZip, wsAug, wD2, denS, den, denA, denI, denO, denT, denG, denGs, wsSeq, wsN, wsIf, wsR, wsX, wsAsg, wsFld, wsBrk, wsCnt, wVar, wC, wTup, wLst, wDisp, wDict0, wOp, wChain, wAnd, wOr, wNot, wIf, wSl, wFld, wIsi, wCall, wBm, wApp, wMeth, wMethK, wNew, wNil, wCons, woN, woS, wgN, wgSub, wgTup, wgStar, wgNil, wgCons, wT, wYes, wLc, wIt, wRng1, wRng2, wsFor, wipeE, Bi.run, Bm.run, Bm.ty, List.getElem?_cons_zero, List.getElem?_cons_succ, List.set_cons_zero, List.set_cons_succ, Option.some.injEq, exists_eq_left', tru_bl, List.append_nil, wRev, C.h21, C.h30, C.h31]
  have er : (pairT σ).reverse = pairT σ.reverse := by rw [pairT, pairT, List.map_reverse]
  have hr : SgOk σ.reverse := hσ.perm (List.reverse_perm σ).symm
  have sr : sub σ.reverse = sub σ := funext fun x => sub_perm hσ (List.reverse_perm σ).symm x
  simp only [er]
  refine do_put kt hr (by omega) fun S4 x4 => ?_
  rw [sr]
  refine do_kput kt hσ (by omega) fun S5 x5 => ?_
  refine do_same (st kσ kt).1 (st kσ kt).2 (by omega) fun S6 x6 => ?_
  simp only [Bool.not_true, tru_bl, Bool.false_eq_true, if_false]
  have y6 := ((y3.trans' x4).trans' x5).trans' x6
  -- one behind the other
  simp only [b_law_k03_0l_2l_5, wLc2, wDc, wSk, shR, wZip, wsAug, wD2, denS, den, denA, denI, denO, denT, denG, denGs, wsSeq, wsN, wsIf, wsR, wsX, wsAsg, wsFld, wsBrk, wsCnt, wVar, wC, wTup, wLst, wDisp, wDict0, wOp, wChain, wAnd, wOr, wNot, wIf, wSl, wFld, wIsi, wCall, wBm, wApp, wMeth, wMethK, wNew, wNil, wCons, woN, woS, wgN, wgSub, wgTup, wgStar, wgNil, wgCons, wT, wYes, wLc, wIt, wRng1, wRng2, wsFor, wipeE, Bi.run, Bm.run, Bm.ty, List.getElem?_cons_zero, List.getElem?_cons_succ, List.set_cons_zero, List.set_cons_succ, Option.some.injEq, exists_eq_left', tru_bl, List.append_nil, C.h21, C.h30, C.h32]
  refine do_put ku hσ (by omega) fun S7 x7 => ?_
  refine do_put (put_kn kσ ku) hτ (by omega) fun S8 x8 => ?_
  refine ⟨rfl, (σ, τ), rfl, ⟨hσ, hτ, fun pr hpr => (show dep pr.2 + 2 ≤ k + 20 by have := dσ pr hpr; omega), (show 1 ≤ k + 20 by omega)⟩, fun r S9 z => ?_⟩
  obtain ⟨x9, rfl⟩ := z
  have hb : SgOk (behind σ τ) := hσ.behind hτ (by omega)
  refine do_put ku hb (by omega) fun S10 x10 => ?_
  have eb : putT (sub (behind σ τ)) u = putT (sub τ) (putT (sub σ) u) := by
    rw [put_put ku]
    congr 1
    exact funext fun x => sub_behind σ τ x
  rw [eb]
  refine do_same (st kτ (put_kn kσ ku)).1 (st kτ (put_kn kσ ku)).2 (by omega) fun S11 x11 => ?_
  simp only [Bool.not_true, tru_bl, Bool.false_eq_true, if_false]
  have y11 := ((((y6.trans' x7).trans' x8).trans' x9).trans' x10).trans' x11
  -- each by itself
  simp only [b_law_k03_0l_2l_6, wLc2, wDc, wSk, shR, wZip, wsAug, wD2, denS, den, denA, denI, denO, denT, denG, denGs, wsSeq, wsN, wsIf, wsR, wsX, wsAsg, wsFld, wsBrk, wsCnt, wVar, wC, wTup, wLst, wDisp, wDict0, wOp, wChain, wAnd, wOr, wNot, wIf, wSl, wFld, wIsi, wCall, wBm, wApp, wMeth, wMethK, wNew, wNil, wCons, woN, woS, wgN, wgSub, wgTup, wgStar, wgNil, wgCons, wT, wYes, wLc, wIt, wRng1, wRng2, wsFor, wipeE, Bi.run, Bm.run, Bm.ty, List.getElem?_cons_zero, List.getElem?_cons_succ, List.set_cons_zero, List.set_cons_succ, Option.some.injEq, exists_eq_left', tru_bl, List.append_nil, C.h27]
  refine ⟨rfl, t, rfl, ⟨kt, hn, by omega⟩, fun r S12 z => ?_⟩
  obtain ⟨x12, l, rfl, _, el⟩ := z
  have gl := gath_le kt hn
  refine iterW_lst el (lcW_map (fun v => .tup [v, v]) (fun S' => Ex S12 S' ∧ S'[l]? = some (.lst (stL (gathT t)))) ⟨.rfl', el⟩ (fun _ h => h.2) (by rw [stL, List.length_map, sizeLine_val]; omega) (fun y S' hy h => ⟨_, bd_nm _ _ _ _, ?_⟩) (fun S13 h => ?_) (mono_den W x_law_k03_0l_2l_6_e0))
  · simp only [x_law_k03_0l_2l_6_e0, wLc2, wDc, wSk, shR, wZip, wsAug, wD2, denS, den, denA, denI, denO, denT, denG, denGs, wsSeq, wsN, wsIf, wsR, wsX, wsAsg, wsFld, wsBrk, wsCnt, wVar, wC, wTup, wLst, wDisp, wDict0, wOp, wChain, wAnd, wOr, wNot, wIf, wSl, wFld, wIsi, wCall, wBm, wApp, wMeth, wMethK, wNew, wNil, wCons, woN, woS, wgN, wgSub, wgTup, wgStar, wgNil, wgCons, wT, wYes, wLc, wIt, wRng1, wRng2, wsFor, wipeE, Bi.run, Bm.run, Bm.ty, List.getElem?_cons_zero, List.getElem?_cons_succ, List.set_cons_zero, List.set_cons_succ, Option.some.injEq, exists_eq_left', tru_bl, List.append_nil]
    exact ⟨by simp [sizeLine_val], trivial, h⟩
  have ei : (stL (gathT t)).map (fun v => T.tup [v, v]) = pairT ((gathT t).map fun x => (x, .str x)) := by simp [stL, pairT, List.map_map, Function.comp_def]
  rw [ei]
  refine gTuple_new ?_
  have hi : SgOk ((gathT t).map fun x => (x, T.str x)) := by
    refine ⟨by rw [List.map_map]; simpa [Function.comp_def] using (gath_spec kt).1, fun pr hpr => ?_, fun pr hpr => ?_, by rw [List.length_map]; exact gl⟩
    · obtain ⟨x, hx, rfl⟩ := List.mem_map.mp hpr
      exact gath_ok kt x hx
    · obtain ⟨x, hx, rfl⟩ := List.mem_map.mp hpr
      simpa only [kn] using gath_ok kt x hx
  have si : ∀ x, sub ((gathT t).map fun x => (x, T.str x)) x = .str x := fun x => by
    unfold sub
    cases e : ((gathT t).map fun x => (x, T.str x)).lookup x with
    | none => rfl
    | some v =>
      obtain ⟨y, _, ey⟩ := List.mem_map.mp (lookup_pair e)
      cases ey
      rfl
  have x13 : Ex S12 (S13 ++ [.lst (pairT ((gathT t).map fun x => (x, T.str x)))]) := h.1.trans' .app
  generalize S13 ++ [.lst (pairT ((gathT t).map fun x => (x, T.str x)))] = S14 at x13 ⊢
  generalize (gathT t).map (fun x => (x, T.str x)) = ι at hi si ⊢
  have y14 := (y11.trans' x12).trans' x13
  simp only [b_law_k03_0l_2l_7, wLc2, wDc, wSk, shR, wZip, wsAug, wD2, denS, den, denA, denI, denO, denT, denG, denGs, wsSeq, wsN, wsIf, wsR, wsX, wsAsg, wsFld, wsBrk, wsCnt, wVar, wC, wTup, wLst, wDisp, wDict0, wOp, wChain, wAnd, wOr, wNot, wIf, wSl, wFld, wIsi, wCall, wBm, wApp, wMeth, wMethK, wNew, wNil, wCons, woN, woS, wgN, wgSub, wgTup, wgStar, wgNil, wgCons, wT, wYes, wLc, wIt, wRng1, wRng2, wsFor, wipeE, Bi.run, Bm.run, Bm.ty, List.getElem?_cons_zero, List.getElem?_cons_succ, List.set_cons_zero, List.set_cons_succ, Option.some.injEq, exists_eq_left', tru_bl, List.append_nil, C.h21, C.h30]
  have h0 : SgOk [] := ⟨List.nodup_nil, fun _ h => absurd h List.not_mem_nil, fun _ h => absurd h List.not_mem_nil, by simp⟩
  refine ⟨by simp [sizeLine_val], do_put (σ := []) kt h0 (by omega) fun S15 x15 => ?_⟩
  rw [put_id (f := sub []) (fun x => rfl) kt]
  refine do_same (kn_st kt) (kn_wf kt) (by omega) fun S16 x16 => ?_
  simp only [Bool.not_true, tru_bl, Bool.false_eq_true, if_false]
  refine do_put kt hi (by omega) fun S17 x17 => ?_
  rw [put_id si kt]
  refine do_same (kn_st kt) (kn_wf kt) (by omega) fun S18 x18 => ?_
  simp only [Bool.not_true, tru_bl, Bool.false_eq_true, if_false]
  have y18 := (((y14.trans' x15).trans' x16).trans' x17).trans' x18
  -- the other pairs
  simp only [b_law_k03_0l_2l_8, wLc2, wDc, wSk, shR, wZip, wsAug, wD2, denS, den, denA, denI, denO, denT, denG, denGs, wsSeq, wsN, wsIf, wsR, wsX, wsAsg, wsFld, wsBrk, wsCnt, wVar, wC, wTup, wLst, wDisp, wDict0, wOp, wChain, wAnd, wOr, wNot, wIf, wSl, wFld, wIsi, wCall, wBm, wApp, wMeth, wMethK, wNew, wNil, wCons, woN, woS, wgN, wgSub, wgTup, wgStar, wgNil, wgCons, wT, wYes, wLc, wIt, wRng1, wRng2, wsFor, wipeE, Bi.run, Bm.run, Bm.ty, List.getElem?_cons_zero, List.getElem?_cons_succ, List.set_cons_zero, List.set_cons_succ, Option.some.injEq, exists_eq_left', tru_bl, List.append_nil, C.h21, C.h30, C.h31]
  refine do_put kt hτ (by omega) fun S19 x19 => ?_
  refine do_kput kt hτ (by omega) fun S20 x20 => ?_
  refine do_same (st kτ kt).1 (st kτ kt).2 (by omega) fun S21 x21 => ?_
  simp only [Bool.not_true, tru_bl, Bool.false_eq_true, if_false]
  exact q S21 _ (((y18.trans' x19).trans' x20).trans' x21)
/-- one turn -/
theorem law3_turn (C : Calls3 W k) {D : En} {o1 o4 o5 o6 o7 o8 o9 o10 : Option T} {S : Sta} (hp : PoolAt S p) (hdc : S[d]? = some (.dct (kvs ws))) (hws : WnOk 7 ws)
    (q : ∀ S' o5 o6 o7 o8 o9, PoolAt S' p → S'[d]? = some (.dct (kvs ws)) → D.nx (L3 ns o1 p d o4 o5 o6 o7 o8 o9 o10) S') :
    denS W b_law_k03_0l_2l_0 D (L3 ns o1 p d o4 o5 o6 o7 o8 o9 o10) S := by
  have hdp : d ≠ p := nd_dct hp hdc
  simp only [b_law_k03_0l_2l_0, wLc2, wDc, wSk, shR, wZip, wsAug, wD2, denS, den, denA, denI, denO, denT, denG, denGs, wsSeq, wsN, wsIf, wsR, wsX, wsAsg, wsFld, wsBrk, wsCnt, wVar, wC, wTup, wLst, wDisp, wDict0, wOp, wChain, wAnd, wOr, wNot, wIf, wSl, wFld, wIsi, wCall, wBm, wApp, wMeth, wMethK, wNew, wNil, wCons, woN, woS, wgN, wgSub, wgTup, wgStar, wgNil, wgCons, wT, wYes, wLc, wIt, wRng1, wRng2, wsFor, wipeE, Bi.run, Bm.run, Bm.ty, List.getElem?_cons_zero, List.getElem?_cons_succ, List.set_cons_zero, List.set_cons_succ, Option.some.injEq, exists_eq_left', tru_bl, List.append_nil, C.h6]
  refine ⟨rfl, (p, d, ws, 2), rfl, ⟨hp, hdc, hws, (show 2 + 2 ≤ k + 20 by omega)⟩, fun t S1 z => ?_⟩
  obtain ⟨x1, p1, kt, wt, dt⟩ := z
  have x1 : Pc p S S1 := x1
  have kt : kindT ws t = true := kt
  have dt : dep t ≤ 2 := dt
  have d1 := x1.get hdc hdp
  refine ⟨rfl, (p, d, ws, 1), rfl, ⟨p1, d1, hws, (show 1 + 2 ≤ k + 20 by omega)⟩, fun u S2 z => ?_⟩
  obtain ⟨x2, p2, ku, wu, du⟩ := z
  have x2 : Pc p S1 S2 := x2
  have ku : kindT ws u = true := ku
  have du : dep u ≤ 1 := du
  have d2 := x2.get d1 hdp
  refine ⟨by simp [sizeLine_val], rfl, trivial, ?_⟩
  have kt := kn_of_kind hws kt
  have ku := kn_of_kind hws ku
  have hn : (namesT t).length ≤ 4000 := Nat.le_trans (names_len kt 2 dt) (by decide)
  simp only [b_law_k03_0l_2l_1, wLc2, wDc, wSk, shR, wZip, wsAug, wD2, denS, den, denA, denI, denO, denT, denG, denGs, wsSeq, wsN, wsIf, wsR, wsX, wsAsg, wsFld, wsBrk, wsCnt, wVar, wC, wTup, wLst, wDisp, wDict0, wOp, wChain, wAnd, wOr, wNot, wIf, wSl, wFld, wIsi, wCall, wBm, wApp, wMeth, wMethK, wNew, wNil, wCons, woN, woS, wgN, wgSub, wgTup, wgStar, wgNil, wgCons, wT, wYes, wLc, wIt, wRng1, wRng2, wsFor, wipeE, Bi.run, Bm.run, Bm.ty, List.getElem?_cons_zero, List.getElem?_cons_succ, List.set_cons_zero, List.set_cons_succ, Option.some.injEq, exists_eq_left', tru_bl, List.append_nil, C.h21, C.h26, C.h27]
  refine ⟨rfl, t, rfl, ⟨kt, hn, by omega⟩, fun r S3 z => ?_⟩
  obtain ⟨x3, ys, rfl, vy⟩ := z
  refine ⟨rfl, t, rfl, ⟨kt, hn, by omega⟩, fun r S4 z => ?_⟩
  obtain ⟨x4, l, rfl, _, el⟩ := z
  refine gSorted_lst el fun zs hzs sz => ?_
  refine gTuple_new ?_
  have gs := gath_spec kt
  have e : zs = ys := by
    refine sorted_uniq ?_ sz vy.2.2
    refine hzs.trans ?_
    exact perm_of_mem gs.1 vy.1 fun x => (gs.2 x).trans (vy.2.1 x).symm
  subst e
  have okz : ∀ y ∈ zs, nameOk y = true := fun y hy => names_ok kt y ((vy.2.1 y).mp hy)
  have lz : zs.length ≤ 4000 := Nat.le_trans (nodup_le vy.1 fun y hy => (vy.2.1 y).mp hy) hn
  have x5 : Ex S2 (S4 ++ [Cell.lst (zs.map T.str)]) := (x3.trans' x4).trans' .app
  generalize S4 ++ [Cell.lst (zs.map T.str)] = S5 at x5 ⊢
  have dz := stL_dep zs
  refine do_same (stL_st zs) (stL_wf okz (by omega)) (by omega) fun S6 x6 => ?_
  simp only [Bool.not_true, tru_bl, Bool.false_eq_true, if_false]
  have x6' := x5.trans' x6
  have p6 := p2.ex x6'
  have d6 := x6'.get d2
  simp only [b_law_k03_0l_2l_2, wLc2, wDc, wSk, shR, wZip, wsAug, wD2, denS, den, denA, denI, denO, denT, denG, denGs, wsSeq, wsN, wsIf, wsR, wsX, wsAsg, wsFld, wsBrk, wsCnt, wVar, wC, wTup, wLst, wDisp, wDict0, wOp, wChain, wAnd, wOr, wNot, wIf, wSl, wFld, wIsi, wCall, wBm, wApp, wMeth, wMethK, wNew, wNil, wCons, woN, woS, wgN, wgSub, wgTup, wgStar, wgNil, wgCons, wT, wYes, wLc, wIt, wRng1, wRng2, wsFor, wipeE, Bi.run, Bm.run, Bm.ty, List.getElem?_cons_zero, List.getElem?_cons_succ, List.set_cons_zero, List.set_cons_succ, Option.some.injEq, exists_eq_left', tru_bl, List.append_nil, C.h28]
  refine ⟨rfl, (p, d, ws, t), rfl, ⟨p6, d6, hws, kt, hn, (show dep t + 5 ≤ k + 20 by omega)⟩, fun r S7 z => ?_⟩
  obtain ⟨x7, p7, σ, rfl, hσ, lσ, dσ⟩ := z
  have x7 : Pc p S6 S7 := x7
  have d7 := x7.get d6 hdp
  refine ⟨rfl, (p, d, ws, t), rfl, ⟨p7, d7, hws, kt, hn, (show dep t + 5 ≤ k + 20 by omega)⟩, fun r S8 z => ?_⟩
  obtain ⟨x8, p8, τ, rfl, hτ, lτ, dτ⟩ := z
  have x8 : Pc p S7 S8 := x8
  have d8 := x8.get d7 hdp
  refine ⟨by simp [sizeLine_val], rfl, trivial, ?_⟩
  exact law3_b C kt ku dt du hσ hτ lσ lτ dσ dτ hn fun S' o5 x => q S' _ _ _ _ _ (p8.ex x) (x.get d8)
/-- a cell -/
theorem law3_cell (C : Calls3 W k) {D : En} {i : Nat} {o2 o3 o4 o5 o6 o7 o8 o9 o10 : Option T} {S : Sta} (hi : i < 2 ^ 20)
    (q : ∀ S' o2 o3 o4 o5 o6 o7 o8 o9, D.nx [some (.frz (ns.map .int)), some (.int (i : Int)), o2, o3, o4, o5, o6, o7, o8, o9, o10] S') :
    denS W b_law_k03_0l_0 D [some (.frz (ns.map .int)), some (.int (i : Int)), o2, o3, o4, o5, o6, o7, o8, o9, o10] S := by
  simp only [b_law_k03_0l_0, wLc2, wDc, wSk, shR, wZip, wsAug, wD2, denS, den, denA, denI, denO, denT, denG, denGs, wsSeq, wsN, wsIf, wsR, wsX, wsAsg, wsFld, wsBrk, wsCnt, wVar, wC, wTup, wLst, wDisp, wDict0, wOp, wChain, wAnd, wOr, wNot, wIf, wSl, wFld, wIsi, wCall, wBm, wApp, wMeth, wMethK, wNew, wNil, wCons, woN, woS, wgN, wgSub, wgTup, wgStar, wgNil, wgCons, wT, wYes, wLc, wIt, wRng1, wRng2, wsFor, wipeE, Bi.run, Bm.run, Bm.ty, List.getElem?_cons_zero, List.getElem?_cons_succ, List.set_cons_zero, List.set_cons_succ, Option.some.injEq, exists_eq_left', tru_bl, List.append_nil, C.h1, C.h2]
  refine ⟨rfl, (ns, (i : Int)), rfl, ⟨(show (0 : Int) ≤ i by omega), (show (i : Int) < 2 ^ 30 by omega)⟩, fun r S1 z => ?_⟩
  obtain ⟨x1, c, rfl⟩ := z
  refine ⟨rfl, c, rfl, trivial, fun r S2 z => ?_⟩
  obtain ⟨x2, p, rfl, hp, p2⟩ := z
  simp only [b_law_k03_0l_1, wLc2, wDc, wSk, shR, wZip, wsAug, wD2, denS, den, denA, denI, denO, denT, denG, denGs, wsSeq, wsN, wsIf, wsR, wsX, wsAsg, wsFld, wsBrk, wsCnt, wVar, wC, wTup, wLst, wDisp, wDict0, wOp, wChain, wAnd, wOr, wNot, wIf, wSl, wFld, wIsi, wCall, wBm, wApp, wMeth, wMethK, wNew, wNil, wCons, woN, woS, wgN, wgSub, wgTup, wgStar, wgNil, wgCons, wT, wYes, wLc, wIt, wRng1, wRng2, wsFor, wipeE, Bi.run, Bm.run, Bm.ty, List.getElem?_cons_zero, List.getElem?_cons_succ, List.set_cons_zero, List.set_cons_succ, Option.some.injEq, exists_eq_left', tru_bl, List.append_nil, C.h3, C.h5]
  have n2 : (S2 ++ [Cell.ins (tx "Book") []])[S2.length]? = some (.ins (tx "Book") []) := get_new
  have hpS2 : p < S2.length := by obtain ⟨_, _, _, e⟩ := p2; exact lt_of_some e
  refine ⟨rfl, S2.length, rfl, ⟨n2, by omega⟩, fun r S3 z => ?_⟩
  obtain ⟨x3, rfl, w, kl, hw, hkl, B3, K3⟩ := z
  have p3 : PoolAt S3 p := (p2.ex .app).ch x3 (show ¬ p = S2.length by omega)
  rw [List.length_append, List.length_singleton] at hw hkl
  refine ⟨rfl, rfl, (p, S2.length, w, kl), rfl, ⟨p3, B3, K3, (show p ≠ kl by omega), (show 3 ≤ k + 20 by omega)⟩, fun r S4 z => ?_⟩
  obtain ⟨x4, p4, d, ws, rfl, _, d4, _, hws, _⟩ := z
  simp only [b_law_k03_0l_2, wLc2, wDc, wSk, shR, wZip, wsAug, wD2, denS, den, denA, denI, denO, denT, denG, denGs, wsSeq, wsN, wsIf, wsR, wsX, wsAsg, wsFld, wsBrk, wsCnt, wVar, wC, wTup, wLst, wDisp, wDict0, wOp, wChain, wAnd, wOr, wNot, wIf, wSl, wFld, wIsi, wCall, wBm, wApp, wMeth, wMethK, wNew, wNil, wCons, woN, woS, wgN, wgSub, wgTup, wgStar, wgNil, wgCons, wT, wYes, wLc, wIt, wRng1, wRng2, wsFor, wipeE, Bi.run, Bm.run, Bm.ty, List.getElem?_cons_zero, List.getElem?_cons_succ, List.set_cons_zero, List.set_cons_succ, Option.some.injEq, exists_eq_left', tru_bl, List.append_nil]
  refine ⟨by decide, by decide, forW_by (fun j ρ S' => PoolAt S' p ∧ S'[d]? = some (.dct (kvs ws)) ∧ ∃ o4 o5 o6 o7 o8 o9, ρ = L3 ns (some (.int (i : Int))) p d o4 o5 o6 o7 o8 o9 o10) ⟨p4, d4, _, _, _, _, _, _, rfl⟩ (fun _ _ _ _ => trivial) (fun j x ρ S' e z => ?_) (fun ρ S' z => ?_) (mono_denS W _)⟩
  · obtain ⟨p5, d5, o4, o5, o6, o7, o8, o9, rfl⟩ := z
    refine ⟨_, bd_nm _ _ _ _, ?_⟩
    simp only [wLc2, wDc, wSk, shR, wZip, wsAug, wD2, denS, den, denA, denI, denO, denT, denG, denGs, wsSeq, wsN, wsIf, wsR, wsX, wsAsg, wsFld, wsBrk, wsCnt, wVar, wC, wTup, wLst, wDisp, wDict0, wOp, wChain, wAnd, wOr, wNot, wIf, wSl, wFld, wIsi, wCall, wBm, wApp, wMeth, wMethK, wNew, wNil, wCons, woN, woS, wgN, wgSub, wgTup, wgStar, wgNil, wgCons, wT, wYes, wLc, wIt, wRng1, wRng2, wsFor, wipeE, Bi.run, Bm.run, Bm.ty, List.getElem?_cons_zero, List.getElem?_cons_succ, List.set_cons_zero, List.set_cons_succ, Option.some.injEq, exists_eq_left', tru_bl, List.append_nil]
    exact law3_turn C p5 d5 hws fun S' o5 o6 o7 o8 o9 a b => ⟨a, b, _, _, _, _, _, _, rfl⟩
  · obtain ⟨p5, d5, o4, o5, o6, o7, o8, o9, rfl⟩ := z
    exact q _ _ _ _ _ _ _ _ _
end
/-- the law: need 21 -/
def co_law_k03 (k : Nat) : Co := Co.of 1 (A := List Int) (fun ns => [.frz (ns.map .int)]) (fun _ _ => 21 ≤ k) (fun _ _ r _ => r = .bl true)
theorem st_law_k03 {W : Wd} {k : Nat} (C : Calls3 W k) {ns : List Int} {S : Sta} {Q : T → Sta → Prop} (q : ∀ r S', r = .bl true → Q r S') :
    denS W b_law_k03_0 (En0 Q) [some (.frz (ns.map .int)), none, none, none, none, none, none, none, none, none, none] S := by
  simp only [b_law_k03_0, wLc2, wDc, wSk, shR, wZip, wsAug, wD2, denS, den, denA, denI, denO, denT, denG, denGs, wsSeq, wsN, wsIf, wsR, wsX, wsAsg, wsFld, wsBrk, wsCnt, wVar, wC, wTup, wLst, wDisp, wDict0, wOp, wChain, wAnd, wOr, wNot, wIf, wSl, wFld, wIsi, wCall, wBm, wApp, wMeth, wMethK, wNew, wNil, wCons, woN, woS, wgN, wgSub, wgTup, wgStar, wgNil, wgCons, wT, wYes, wLc, wIt, wRng1, wRng2, wsFor, wipeE, Bi.run, Bm.run, Bm.ty, List.getElem?_cons_zero, List.getElem?_cons_succ, List.set_cons_zero, List.set_cons_succ, Option.some.injEq, exists_eq_left', tru_bl, List.append_nil]
  refine cells_max ⟨by decide, by decide⟩ ⟨by decide, by decide⟩ fun e e0 e1 => ⟨by omega, by omega, ?_⟩
  refine forW_by (fun _ ρ S' => ∃ o1 o2 o3 o4 o5 o6 o7 o8 o9 o10, ρ = [some (.frz (ns.map .int)), o1, o2, o3, o4, o5, o6, o7, o8, o9, o10]) ⟨_, _, _, _, _, _, _, _, _, _, rfl⟩ (fun _ _ _ _ => trivial) (fun i x ρ S' ei z => ?_) (fun ρ S' z => ?_) (mono_denS W _)
  · obtain ⟨o1, o2, o3, o4, o5, o6, o7, o8, o9, o10, rfl⟩ := z
    obtain ⟨rfl, hi⟩ := rng_mem ei
    refine ⟨_, bd_nm _ _ _ _, ?_⟩
    simp only [wLc2, wDc, wSk, shR, wZip, wsAug, wD2, denS, den, denA, denI, denO, denT, denG, denGs, wsSeq, wsN, wsIf, wsR, wsX, wsAsg, wsFld, wsBrk, wsCnt, wVar, wC, wTup, wLst, wDisp, wDict0, wOp, wChain, wAnd, wOr, wNot, wIf, wSl, wFld, wIsi, wCall, wBm, wApp, wMeth, wMethK, wNew, wNil, wCons, woN, woS, wgN, wgSub, wgTup, wgStar, wgNil, wgCons, wT, wYes, wLc, wIt, wRng1, wRng2, wsFor, wipeE, Bi.run, Bm.run, Bm.ty, List.getElem?_cons_zero, List.getElem?_cons_succ, List.set_cons_zero, List.set_cons_succ, Option.some.injEq, exists_eq_left', tru_bl, List.append_nil, Int.zero_add]
    exact law3_cell C (by omega) fun S' o2 o3 o4 o5 o6 o7 o8 o9 => ⟨_, _, _, _, _, _, _, _, _, _, rfl⟩
  · obtain ⟨o1, o2, o3, o4, o5, o6, o7, o8, o9, o10, rfl⟩ := z
    simp only [b_law_k03_1, wLc2, wDc, wSk, shR, wZip, wsAug, wD2, denS, den, denA, denI, denO, denT, denG, denGs, wsSeq, wsN, wsIf, wsR, wsX, wsAsg, wsFld, wsBrk, wsCnt, wVar, wC, wTup, wLst, wDisp, wDict0, wOp, wChain, wAnd, wOr, wNot, wIf, wSl, wFld, wIsi, wCall, wBm, wApp, wMeth, wMethK, wNew, wNil, wCons, woN, woS, wgN, wgSub, wgTup, wgStar, wgNil, wgCons, wT, wYes, wLc, wIt, wRng1, wRng2, wsFor, wipeE, Bi.run, Bm.run, Bm.ty, List.getElem?_cons_zero, List.getElem?_cons_succ, List.set_cons_zero, List.set_cons_succ, Option.some.injEq, exists_eq_left', tru_bl, List.append_nil]
    exact q _ _ rfl
end TR
set_option Elab.async false
set_option linter.all false
set_option maxRecDepth 100000
set_option maxHeartbeats 2000000
/-! TS_k03: all bodies keep their contracts. -/
namespace TR
open PySem PySem.Spec L2
open PyProof.Rows hiding St
def g_k03 (j : Nat) : Nat → Co
  | 1 => co_pool
  | 2 => co_cell
  | 3 => co_init j
  | 5 => co_wanting j
  | 6 => co_some_kind j
  | 9 => co_fun_of
  | 11 => co_names j
  | 12 => co_take
  | 13 => co_declare_kind j
  | 16 => co_is_name
  | 17 => co_check_new j
  | 18 => co_is_whole
  | 19 => co_keep
  | 21 => co_same j
  | 25 => co_names_in j
  | 26 => co_variables j
  | 27 => co_gath j
  | 28 => co_pairs j
  | 29 => co_exchanged j
  | 30 => co_put_kinds j
  | 31 => co_kind_put j
  | 32 => co_behind j
  | 33 => co_law_k03 j
  | _ => Co.no 0
def evn (n : Nat) (ts : List T) : Ev := ts.map some ++ List.replicate (n - ts.length) none
def Stp (noat : List Nat → List Nat → Bool) (f n : Nat) (b : S) : Prop := ∀ j ts S Q, (g_k03 j f).run ts S Q → denS ⟨lev g_k03 (j + 1), lev g_k03 j, noat⟩ b (En0 Q) (evn n ts) S
section
variable {noat : List Nat → List Nat → Bool}
abbrev Nob (noat : List Nat → List Nat → Bool) : Prop := ∀ f ∈ bookF, noat (tx "Book") f = true
theorem stp_law_pool : Stp noat 1 2 b_law_pool_0 := by
  rintro j _ S Q ⟨a, rfl, p, q⟩
  exact st_pool q
theorem stp_law_cell : Stp noat 2 4 b_law_cell_0 := by
  rintro j _ S Q ⟨a, rfl, p, q⟩
  exact st_cell p.1 p.2 q
theorem stp_Book_init (hn : Nob noat) : Stp noat 3 1 b_Book_init_0 := by
  rintro j _ S Q ⟨a, rfl, p, q⟩
  obtain ⟨k, rfl⟩ : ∃ k, j = k + 1 := ⟨j - 1, by have := p.2; omega⟩
  exact st_init (W := ⟨lev g_k03 (k + 2), lev g_k03 (k + 1), noat⟩) hn rfl p.1 q
theorem stp_law_wanting (hn : Nob noat) : Stp noat 5 4 b_law_wanting_0 := by
  rintro j _ S Q ⟨a, rfl, p, q⟩
  obtain ⟨p1, p2, p3, p4, p5⟩ := p
  obtain ⟨k, rfl⟩ : ∃ k, j = k + 3 := ⟨j - 3, by omega⟩
  exact st_wanting (W := ⟨lev g_k03 (k + 4), lev g_k03 (k + 3), noat⟩) (k := k) hn rfl rfl rfl p1 p2 p3 p4 q
theorem stp_law_some_kind : Stp noat 6 6 b_law_some_kind_0 := by
  rintro j _ S Q ⟨a, rfl, p, q⟩
  obtain ⟨p1, p2, p3, p4⟩ := p
  obtain ⟨k, rfl⟩ : ∃ k, j = k + 2 := ⟨j - 2, by omega⟩
  exact st_some_kind (W := ⟨lev g_k03 (k + 3), lev g_k03 (k + 2), noat⟩) (k := k) rfl rfl rfl p1 p2 p3 (by omega) q
theorem stp_fun_of : Stp noat 9 2 b_fun_of_0 := by
  rintro j _ S Q ⟨a, rfl, p, q⟩
  exact st_fun_of (q _ _ ⟨rfl, rfl⟩)
theorem stp_law_names : Stp noat 11 7 b_law_names_0 := by
  rintro j _ S Q ⟨a, rfl, p, q⟩
  obtain ⟨p1, p2⟩ := p
  obtain ⟨k, rfl⟩ : ∃ k, j = k + 1 := ⟨j - 1, by omega⟩
  exact st_names (W := ⟨lev g_k03 (k + 2), lev g_k03 (k + 1), noat⟩) rfl p1 q
theorem stp_law_take : Stp noat 12 4 b_law_take_0 := by
  rintro j _ S Q ⟨a, rfl, p, q⟩
  exact st_take p.1 p.2.1 p.2.2 q
theorem stp_Book_declare_kind (hn : Nob noat) : Stp noat 13 3 b_Book_declare_kind_0 := by
  rintro j _ S Q ⟨a, rfl, p, q⟩
  obtain ⟨p1, p2, p3, p4, p5, p6, p7, p8, p9⟩ := p
  obtain ⟨k, rfl⟩ : ∃ k, j = k + 2 := ⟨j - 2, by omega⟩
  exact st_declare_kind (W := ⟨lev g_k03 (k + 3), lev g_k03 (k + 2), noat⟩) (k := k) hn rfl rfl rfl p1 p2 p3 p4 p5 p6 p7 p8 q
theorem stp_is_name : Stp noat 16 2 b_is_name_0 := by
  rintro j _ S Q ⟨a, rfl, p, q⟩
  exact st_is_name p q
theorem stp_Book_check_new : Stp noat 17 3 b_Book_check_new_0 := by
  rintro j _ S Q ⟨a, rfl, p, q⟩
  obtain ⟨p1, p2, p3, p4⟩ := p
  obtain ⟨k, rfl⟩ : ∃ k, j = k + 1 := ⟨j - 1, by omega⟩
  exact st_check_new (W := ⟨lev g_k03 (k + 2), lev g_k03 (k + 1), noat⟩) rfl p1 p2 p3 q
theorem stp_is_whole : Stp noat 18 1 b_is_whole_0 := by
  rintro j _ S Q ⟨a, rfl, p, q⟩
  exact st_is_whole' p q
theorem stp_Book_keep (hn : Nob noat) : Stp noat 19 3 b_Book_keep_0 := by
  rintro j _ S Q ⟨a, rfl, p, q⟩
  exact st_keep (W := ⟨lev g_k03 (j + 1), lev g_k03 j, noat⟩) hn p.1 p.2 q
theorem stp_law_same : Stp noat 21 4 b_law_same_0 := by
  rintro j _ S Q ⟨a, rfl, p, q⟩
  obtain ⟨p1, p2, p3⟩ := p
  obtain ⟨k, rfl⟩ : ∃ k, j = k + 1 := ⟨j - 1, by omega⟩
  exact st_same (W := ⟨lev g_k03 (k + 2), lev g_k03 (k + 1), noat⟩) (k := k) rfl p1 p2 (by omega) q
theorem stp_names_in : Stp noat 25 3 b_names_in_0 := by
  rintro j _ S Q ⟨a, rfl, p, q⟩
  obtain ⟨p1, p2, p3⟩ := p
  obtain ⟨k, rfl⟩ : ∃ k, j = k + 1 := ⟨j - 1, by omega⟩
  exact st_names_in (W := ⟨lev g_k03 (k + 2), lev g_k03 (k + 1), noat⟩) (k := k) rfl p1 p2 (by omega) q
theorem stp_variables : Stp noat 26 2 b_variables_0 := by
  rintro j _ S Q ⟨a, rfl, p, q⟩
  obtain ⟨p1, p2, p3⟩ := p
  obtain ⟨k, rfl⟩ : ∃ k, j = k + 1 := ⟨j - 1, by omega⟩
  exact st_variables (W := ⟨lev g_k03 (k + 2), lev g_k03 (k + 1), noat⟩) (k := k) rfl p1 p2 (by omega) q
theorem stp_law_gathered : Stp noat 27 4 b_law_gathered_0 := by
  rintro j _ S Q ⟨a, rfl, p, q⟩
  obtain ⟨p1, p2, p3⟩ := p
  obtain ⟨k, rfl⟩ : ∃ k, j = k + 1 := ⟨j - 1, by omega⟩
  exact st_gath (W := ⟨lev g_k03 (k + 2), lev g_k03 (k + 1), noat⟩) (k := k) rfl p1 p2 (by omega) q
theorem stp_law_pairs : Stp noat 28 9 b_law_pairs_0 := by
  rintro j _ S Q ⟨a, rfl, p, q⟩
  obtain ⟨p1, p2, p3, p4, p5, p6⟩ := p
  obtain ⟨k, rfl⟩ : ∃ k, j = k + 1 := ⟨j - 1, by omega⟩
  exact st_pairs (W := ⟨lev g_k03 (k + 2), lev g_k03 (k + 1), noat⟩) (k := k) rfl rfl rfl rfl p1 p2 p3 p4 p5 (by omega) q
theorem stp_exchanged : Stp noat 29 5 b_exchanged_0 := by
  rintro j _ S Q ⟨a, rfl, p, q⟩
  obtain ⟨p1, p2, p3⟩ := p
  obtain ⟨k, rfl⟩ : ∃ k, j = k + 1 := ⟨j - 1, by omega⟩
  exact st_exchanged (W := ⟨lev g_k03 (k + 2), lev g_k03 (k + 1), noat⟩) (k := k) rfl p1 p2 (by omega) q
theorem stp_put_kinds : Stp noat 30 4 b_put_kinds_0 := by
  rintro j _ S Q ⟨a, rfl, p, q⟩
  obtain ⟨p1, p2, p3⟩ := p
  obtain ⟨k, rfl⟩ : ∃ k, j = k + 1 := ⟨j - 1, by omega⟩
  exact st_put_kinds (W := ⟨lev g_k03 (k + 2), lev g_k03 (k + 1), noat⟩) (k := k) rfl p1 p2 (by omega) q
theorem stp_law_kind_put : Stp noat 31 6 b_law_kind_put_0 := by
  rintro j _ S Q ⟨a, rfl, p, q⟩
  obtain ⟨p1, p2, p3⟩ := p
  obtain ⟨k, rfl⟩ : ∃ k, j = k + 1 := ⟨j - 1, by omega⟩
  exact st_kind_put (W := ⟨lev g_k03 (k + 2), lev g_k03 (k + 1), noat⟩) (k := k) rfl p1 p2 (by omega) q
theorem stp_law_behind : Stp noat 32 6 b_law_behind_0 := by
  rintro j _ S Q ⟨a, rfl, p, q⟩
  obtain ⟨p1, p2, p3, p4⟩ := p
  obtain ⟨k, rfl⟩ : ∃ k, j = k + 1 := ⟨j - 1, by omega⟩
  exact st_behind (W := ⟨lev g_k03 (k + 2), lev g_k03 (k + 1), noat⟩) (k := k) rfl p1 p2 (fun pr hpr => by have := p3 pr hpr; omega) q
theorem stp_law_k03 : Stp noat 33 11 b_law_k03_0 := by
  rintro j _ S Q ⟨a, rfl, p, q⟩
  obtain ⟨k, rfl⟩ : ∃ k, j = k + 21 := ⟨j - 21, by omega⟩
  exact st_law_k03 (W := ⟨lev g_k03 (k + 22), lev g_k03 (k + 21), noat⟩) (k := k) (by constructor <;> rfl) q
end
end TR
set_option Elab.async false
set_option linter.all false
set_option maxRecDepth 100000
set_option maxHeartbeats 0
namespace A_k03
open PySem PySem.Spec L2 TR
open PyProof.Rows hiding St
def gx (s : String) (e : GE) : PySem.Str × GE := (PySem.Str.ofString s, e)
def mx (s : String) (e : ME) : PySem.Str × ME := (PySem.Str.ofString s, e)
abbrev P : PySem.Program := PySem.Challenge.pw_tenrules_k03_variables_and_kinds_exchang
def top (i : Nat) : PySem.Stmt := P.main.body.getD i (.Pass ⟨0, 0, 0, 0⟩)
def tbG0 : List (PySem.Str × GE) := [gx "range" (.blt),
  gx "max" (.blt),
  gx "min" (.blt),
  gx "len" (.blt),
  gx "_law_pool" (.fn 1 [(1, [])]),
  gx "_law_cell" (.fn 2 [(2, [])]),
  gx "_law_wanting" (.fn 5 [(2, [])]),
  gx "Book" (.cls (tx "Book") 3 [(0, [])]),
  gx "_law_some_kind" (.fn 6 [(3, [])]),
  gx "_law_same" (.fn 21 [(2, [])]),
  gx "variables" (.fn 26 [(1, [])]),
  gx "tuple" (.blt)]
def tbG1 : List (PySem.Str × GE) := [gx "sorted" (.blt),
  gx "_law_gathered" (.fn 27 [(1, [])]),
  gx "_law_pairs" (.fn 28 [(3, [])]),
  gx "put_kinds" (.fn 30 [(2, [])]),
  gx "_law_kind_put" (.fn 31 [(2, [])]),
  gx "_law_behind" (.fn 32 [(2, [])]),
  gx "abs" (.blt),
  gx "dict" (.blt),
  gx "_law_names" (.fn 11 [(1, [])]),
  gx "_law_take" (.fn 12 [(2, [])]),
  gx "fun_of" (.fn 9 [(2, [])]),
  gx "BOOL" (.con (.tup [.str (tx "bool")]))]
def tbG2 : List (PySem.Str × GE) := [gx "isinstance" (.blt),
  gx "all" (.blt),
  gx "zip" (.blt),
  gx "str" (.blt),
  gx "names_in" (.fn 25 [(1, [])]),
  gx "exchanged" (.fn 29 [(2, [])]),
  gx "divmod" (.blt),
  gx "is_whole" (.fn 18 [(1, [])]),
  gx "MOST_WANTS" (.con (.int 3)),
  gx "is_name" (.fn 16 [(1, [])]),
  gx "int" (.blt),
  gx "bool" (.blt)]
def tbG3 : List (PySem.Str × GE) := [gx "MOST_LETTERS" (.con (.int 8)),
  gx "LETTERS_kinds" (.con (.str (tx "abcdefghijklmnopqrstuvwxyz")))]
def tbG : List (PySem.Str × GE) := tbG0 ++ tbG1 ++ tbG2 ++ tbG3
def tbM0 : List (PySem.Str × ME) := [mx "declare_kind" (⟨tx "Book", 13, [(1, [.int 0])], [(1, ["many"])]⟩),
  mx "check_new" (⟨tx "Book", 17, [(2, [])], []⟩),
  mx "keep" (⟨tx "Book", 19, [(2, []), (1, [.non])], []⟩)]
def tbM : List (PySem.Str × ME) := tbM0
def tb : Tb := ⟨tbG, tbM⟩
abbrev s_law_k03 : PySem.Stmt := top 98
def d_law_k03 : He.DefD := ⟨("law", none), "law", "law", defArgs s_law_k03, defBody s_law_k03, defScope s_law_k03, [], []⟩
def N_law_k03 : List PySem.Str := ["_law_script", "_law_k", "_law_pool_here", "_law_wants", "_law_turn", "_law_same_here", "_law_kind", "_law_small", "_law_one", "_law_two", "_law_name"]
def p_law_k03 : List PySem.Str := ["_law_script"]
abbrev s_law_pool : PySem.Stmt := top 88
def d_law_pool : He.DefD := ⟨("_law_pool", none), "_law_pool", "_law_pool", defArgs s_law_pool, defBody s_law_pool, defScope s_law_pool, [], []⟩
def N_law_pool : List PySem.Str := ["_law_cell_here", "_law_digits"]
def p_law_pool : List PySem.Str := ["_law_cell_here"]
abbrev s_law_cell : PySem.Stmt := top 87
def d_law_cell : He.DefD := ⟨("_law_cell", none), "_law_cell", "_law_cell", defArgs s_law_cell, defBody s_law_cell, defScope s_law_cell, [], []⟩
def N_law_cell : List PySem.Str := ["_law_script", "_law_k", "_law_state", "_law_cell_here"]
def p_law_cell : List PySem.Str := ["_law_script", "_law_k"]
abbrev s_law_wanting : PySem.Stmt := top 91
def d_law_wanting : He.DefD := ⟨("_law_wanting", none), "_law_wanting", "_law_wanting", defArgs s_law_wanting, defBody s_law_wanting, defScope s_law_wanting, [], []⟩
def N_law_wanting : List PySem.Str := ["_law_pool_here", "_law_book", "_law_wants", "_law_name"]
def p_law_wanting : List PySem.Str := ["_law_pool_here", "_law_book"]
abbrev s_Book_init : PySem.Stmt := inClass (top 85) 0
def d_Book_init : He.DefD := ⟨("Book", some "__init__"), "__init__", "Book.__init__", defArgs s_Book_init, defBody s_Book_init, defScope s_Book_init, [], []⟩
def N_Book_init : List PySem.Str := ["self"]
def p_Book_init : List PySem.Str := ["self"]
abbrev s_law_some_kind : PySem.Stmt := top 92
def d_law_some_kind : He.DefD := ⟨("_law_some_kind", none), "_law_some_kind", "_law_some_kind", defArgs s_law_some_kind, defBody s_law_some_kind, defScope s_law_some_kind, [], []⟩
def N_law_some_kind : List PySem.Str := ["_law_pool_here", "_law_wants", "_law_deep", "_law_names_here", "_law_name", "_law_k"]
def p_law_some_kind : List PySem.Str := ["_law_pool_here", "_law_wants", "_law_deep"]
abbrev s_law_same : PySem.Stmt := top 94
def d_law_same : He.DefD := ⟨("_law_same", none), "_law_same", "_law_same", defArgs s_law_same, defBody s_law_same, defScope s_law_same, [], []⟩
def N_law_same : List PySem.Str := ["_law_one", "_law_other", "_law_a", "_law_b"]
def p_law_same : List PySem.Str := ["_law_one", "_law_other"]
abbrev s_variables : PySem.Stmt := top 25
def d_variables : He.DefD := ⟨("variables", none), "variables", "variables", defArgs s_variables, defBody s_variables, defScope s_variables, [], []⟩
def N_variables : List PySem.Str := ["kind", "name"]
def p_variables : List PySem.Str := ["kind"]
abbrev s_law_gathered : PySem.Stmt := top 95
def d_law_gathered : He.DefD := ⟨("_law_gathered", none), "_law_gathered", "_law_gathered", defArgs s_law_gathered, defBody s_law_gathered, defScope s_law_gathered, [], []⟩
def N_law_gathered : List PySem.Str := ["_law_kind", "_law_names_here", "_law_part", "_law_name"]
def p_law_gathered : List PySem.Str := ["_law_kind"]
abbrev s_law_pairs : PySem.Stmt := top 96
def d_law_pairs : He.DefD := ⟨("_law_pairs", none), "_law_pairs", "_law_pairs", defArgs s_law_pairs, defBody s_law_pairs, defScope s_law_pairs, [], []⟩
def N_law_pairs : List PySem.Str := ["_law_pool_here", "_law_wants", "_law_kind", "_law_names_here", "_law_pairs_here", "_law_turn", "_law_name", "_law_one", "_law_other"]
def p_law_pairs : List PySem.Str := ["_law_pool_here", "_law_wants", "_law_kind"]
abbrev s_put_kinds : PySem.Stmt := top 27
def d_put_kinds : He.DefD := ⟨("put_kinds", none), "put_kinds", "put_kinds", defArgs s_put_kinds, defBody s_put_kinds, defScope s_put_kinds, [], []⟩
def N_put_kinds : List PySem.Str := ["kind", "pairs", "name", "other"]
def p_put_kinds : List PySem.Str := ["kind", "pairs"]
abbrev s_law_kind_put : PySem.Stmt := top 93
def d_law_kind_put : He.DefD := ⟨("_law_kind_put", none), "_law_kind_put", "_law_kind_put", defArgs s_law_kind_put, defBody s_law_kind_put, defScope s_law_kind_put, [], []⟩
def N_law_kind_put : List PySem.Str := ["_law_kind", "_law_pairs_here", "_law_come", "_law_name", "_law_other", "_law_one"]
def p_law_kind_put : List PySem.Str := ["_law_kind", "_law_pairs_here"]
abbrev s_law_behind : PySem.Stmt := top 97
def d_law_behind : He.DefD := ⟨("_law_behind", none), "_law_behind", "_law_behind", defArgs s_law_behind, defBody s_law_behind, defScope s_law_behind, [], []⟩
def N_law_behind : List PySem.Str := ["_law_first", "_law_second", "_law_names_here", "_law_pairs_here", "_law_name", "_law_kind"]
def p_law_behind : List PySem.Str := ["_law_first", "_law_second"]
abbrev s_law_names : PySem.Stmt := top 90
def d_law_names : He.DefD := ⟨("_law_names", none), "_law_names", "_law_names", defArgs s_law_names, defBody s_law_names, defScope s_law_names, [], []⟩
def N_law_names : List PySem.Str := ["_law_pool_here", "_law_own", "_law_first", "_law_step", "_law_letters", "_law_stem", "_law_k"]
def p_law_names : List PySem.Str := ["_law_pool_here"]
abbrev s_law_take : PySem.Stmt := top 89
def d_law_take : He.DefD := ⟨("_law_take", none), "_law_take", "_law_take", defArgs s_law_take, defBody s_law_take, defScope s_law_take, [], []⟩
def N_law_take : List PySem.Str := ["_law_pool_here", "_law_size", "_law_state", "_law_digit"]
def p_law_take : List PySem.Str := ["_law_pool_here", "_law_size"]
abbrev s_Book_declare_kind : PySem.Stmt := inClass (top 85) 9
def d_Book_declare_kind : He.DefD := ⟨("Book", some "declare_kind"), "declare_kind", "Book.declare_kind", defArgs s_Book_declare_kind, defBody s_Book_declare_kind, defScope s_Book_declare_kind, [], [("many", .int 0)]⟩
def N_Book_declare_kind : List PySem.Str := ["self", "name", "many"]
def p_Book_declare_kind : List PySem.Str := ["self", "name", "many"]
abbrev s_fun_of : PySem.Stmt := top 21
def d_fun_of : He.DefD := ⟨("fun_of", none), "fun_of", "fun_of", defArgs s_fun_of, defBody s_fun_of, defScope s_fun_of, [], []⟩
def N_fun_of : List PySem.Str := ["first", "last"]
def p_fun_of : List PySem.Str := ["first", "last"]
abbrev s_names_in : PySem.Stmt := top 24
def d_names_in : He.DefD := ⟨("names_in", none), "names_in", "names_in", defArgs s_names_in, defBody s_names_in, defScope s_names_in, [], []⟩
def N_names_in : List PySem.Str := ["kind", "other", "name"]
def p_names_in : List PySem.Str := ["kind"]
abbrev s_exchanged : PySem.Stmt := top 26
def d_exchanged : He.DefD := ⟨("exchanged", none), "exchanged", "exchanged", defArgs s_exchanged, defBody s_exchanged, defScope s_exchanged, [], []⟩
def N_exchanged : List PySem.Str := ["kind", "known", "name", "others", "other"]
def p_exchanged : List PySem.Str := ["kind", "known"]
abbrev s_Book_check_new : PySem.Stmt := inClass (top 85) 5
def d_Book_check_new : He.DefD := ⟨("Book", some "check_new"), "check_new", "Book.check_new", defArgs s_Book_check_new, defBody s_Book_check_new, defScope s_Book_check_new, [], []⟩
def N_Book_check_new : List PySem.Str := ["self", "name", "known"]
def p_Book_check_new : List PySem.Str := ["self", "name", "known"]
abbrev s_is_whole : PySem.Stmt := top 82
def d_is_whole : He.DefD := ⟨("is_whole", none), "is_whole", "is_whole", defArgs s_is_whole, defBody s_is_whole, defScope s_is_whole, [], []⟩
def N_is_whole : List PySem.Str := ["thing"]
def p_is_whole : List PySem.Str := ["thing"]
abbrev s_Book_keep : PySem.Stmt := inClass (top 85) 4
def d_Book_keep : He.DefD := ⟨("Book", some "keep"), "keep", "Book.keep", defArgs s_Book_keep, defBody s_Book_keep, defScope s_Book_keep, [.non], []⟩
def N_Book_keep : List PySem.Str := ["self", "deed", "sequent"]
def p_Book_keep : List PySem.Str := ["self", "deed", "sequent"]
abbrev s_is_name : PySem.Stmt := top 20
def d_is_name : He.DefD := ⟨("is_name", none), "is_name", "is_name", defArgs s_is_name, defBody s_is_name, defScope s_is_name, [], []⟩
def N_is_name : List PySem.Str := ["thing", "sign"]
def p_is_name : List PySem.Str := ["thing"]
def F_law_k03 : Fn := ⟨d_law_k03, p_law_k03, N_law_k03, 33, b_law_k03_0⟩
theorem sc_law_k03 : scOk N_law_k03 p_law_k03 d_law_k03.scope = true := by kernel_rfl
theorem er_law_k03 : erSs tb N_law_k03 d_law_k03.scope 60 d_law_k03.body = b_law_k03_0 := by kernel_rfl
def F_law_pool : Fn := ⟨d_law_pool, p_law_pool, N_law_pool, 1, b_law_pool_0⟩
theorem sc_law_pool : scOk N_law_pool p_law_pool d_law_pool.scope = true := by kernel_rfl
theorem er_law_pool : erSs tb N_law_pool d_law_pool.scope 60 d_law_pool.body = b_law_pool_0 := by kernel_rfl
def F_law_cell : Fn := ⟨d_law_cell, p_law_cell, N_law_cell, 2, b_law_cell_0⟩
theorem sc_law_cell : scOk N_law_cell p_law_cell d_law_cell.scope = true := by kernel_rfl
theorem er_law_cell : erSs tb N_law_cell d_law_cell.scope 60 d_law_cell.body = b_law_cell_0 := by kernel_rfl
def F_law_wanting : Fn := ⟨d_law_wanting, p_law_wanting, N_law_wanting, 5, b_law_wanting_0⟩
theorem sc_law_wanting : scOk N_law_wanting p_law_wanting d_law_wanting.scope = true := by kernel_rfl
theorem er_law_wanting : erSs tb N_law_wanting d_law_wanting.scope 60 d_law_wanting.body = b_law_wanting_0 := by kernel_rfl
def F_Book_init : Fn := ⟨d_Book_init, p_Book_init, N_Book_init, 3, b_Book_init_0⟩
theorem sc_Book_init : scOk N_Book_init p_Book_init d_Book_init.scope = true := by kernel_rfl
theorem er_Book_init : erSs tb N_Book_init d_Book_init.scope 60 d_Book_init.body = b_Book_init_0 := by kernel_rfl
def F_law_some_kind : Fn := ⟨d_law_some_kind, p_law_some_kind, N_law_some_kind, 6, b_law_some_kind_0⟩
theorem sc_law_some_kind : scOk N_law_some_kind p_law_some_kind d_law_some_kind.scope = true := by kernel_rfl
theorem er_law_some_kind : erSs tb N_law_some_kind d_law_some_kind.scope 60 d_law_some_kind.body = b_law_some_kind_0 := by kernel_rfl
def F_law_same : Fn := ⟨d_law_same, p_law_same, N_law_same, 21, b_law_same_0⟩
theorem sc_law_same : scOk N_law_same p_law_same d_law_same.scope = true := by kernel_rfl
theorem er_law_same : erSs tb N_law_same d_law_same.scope 60 d_law_same.body = b_law_same_0 := by kernel_rfl
def F_variables : Fn := ⟨d_variables, p_variables, N_variables, 26, b_variables_0⟩
theorem sc_variables : scOk N_variables p_variables d_variables.scope = true := by kernel_rfl
theorem er_variables : erSs tb N_variables d_variables.scope 60 d_variables.body = b_variables_0 := by kernel_rfl
def F_law_gathered : Fn := ⟨d_law_gathered, p_law_gathered, N_law_gathered, 27, b_law_gathered_0⟩
theorem sc_law_gathered : scOk N_law_gathered p_law_gathered d_law_gathered.scope = true := by kernel_rfl
theorem er_law_gathered : erSs tb N_law_gathered d_law_gathered.scope 60 d_law_gathered.body = b_law_gathered_0 := by kernel_rfl
def F_law_pairs : Fn := ⟨d_law_pairs, p_law_pairs, N_law_pairs, 28, b_law_pairs_0⟩
theorem sc_law_pairs : scOk N_law_pairs p_law_pairs d_law_pairs.scope = true := by kernel_rfl
theorem er_law_pairs : erSs tb N_law_pairs d_law_pairs.scope 60 d_law_pairs.body = b_law_pairs_0 := by kernel_rfl
def F_put_kinds : Fn := ⟨d_put_kinds, p_put_kinds, N_put_kinds, 30, b_put_kinds_0⟩
theorem sc_put_kinds : scOk N_put_kinds p_put_kinds d_put_kinds.scope = true := by kernel_rfl
theorem er_put_kinds : erSs tb N_put_kinds d_put_kinds.scope 60 d_put_kinds.body = b_put_kinds_0 := by kernel_rfl
def F_law_kind_put : Fn := ⟨d_law_kind_put, p_law_kind_put, N_law_kind_put, 31, b_law_kind_put_0⟩
theorem sc_law_kind_put : scOk N_law_kind_put p_law_kind_put d_law_kind_put.scope = true := by kernel_rfl
theorem er_law_kind_put : erSs tb N_law_kind_put d_law_kind_put.scope 60 d_law_kind_put.body = b_law_kind_put_0 := by kernel_rfl
def F_law_behind : Fn := ⟨d_law_behind, p_law_behind, N_law_behind, 32, b_law_behind_0⟩
theorem sc_law_behind : scOk N_law_behind p_law_behind d_law_behind.scope = true := by kernel_rfl
theorem er_law_behind : erSs tb N_law_behind d_law_behind.scope 60 d_law_behind.body = b_law_behind_0 := by kernel_rfl
def F_law_names : Fn := ⟨d_law_names, p_law_names, N_law_names, 11, b_law_names_0⟩
theorem sc_law_names : scOk N_law_names p_law_names d_law_names.scope = true := by kernel_rfl
theorem er_law_names : erSs tb N_law_names d_law_names.scope 60 d_law_names.body = b_law_names_0 := by kernel_rfl
def F_law_take : Fn := ⟨d_law_take, p_law_take, N_law_take, 12, b_law_take_0⟩
theorem sc_law_take : scOk N_law_take p_law_take d_law_take.scope = true := by kernel_rfl
theorem er_law_take : erSs tb N_law_take d_law_take.scope 60 d_law_take.body = b_law_take_0 := by kernel_rfl
def F_Book_declare_kind : Fn := ⟨d_Book_declare_kind, p_Book_declare_kind, N_Book_declare_kind, 13, b_Book_declare_kind_0⟩
theorem sc_Book_declare_kind : scOk N_Book_declare_kind p_Book_declare_kind d_Book_declare_kind.scope = true := by kernel_rfl
theorem er_Book_declare_kind : erSs tb N_Book_declare_kind d_Book_declare_kind.scope 60 d_Book_declare_kind.body = b_Book_declare_kind_0 := by kernel_rfl
def F_fun_of : Fn := ⟨d_fun_of, p_fun_of, N_fun_of, 9, b_fun_of_0⟩
theorem sc_fun_of : scOk N_fun_of p_fun_of d_fun_of.scope = true := by kernel_rfl
theorem er_fun_of : erSs tb N_fun_of d_fun_of.scope 60 d_fun_of.body = b_fun_of_0 := by kernel_rfl
def F_names_in : Fn := ⟨d_names_in, p_names_in, N_names_in, 25, b_names_in_0⟩
theorem sc_names_in : scOk N_names_in p_names_in d_names_in.scope = true := by kernel_rfl
theorem er_names_in : erSs tb N_names_in d_names_in.scope 60 d_names_in.body = b_names_in_0 := by kernel_rfl
def F_exchanged : Fn := ⟨d_exchanged, p_exchanged, N_exchanged, 29, b_exchanged_0⟩
theorem sc_exchanged : scOk N_exchanged p_exchanged d_exchanged.scope = true := by kernel_rfl
theorem er_exchanged : erSs tb N_exchanged d_exchanged.scope 60 d_exchanged.body = b_exchanged_0 := by kernel_rfl
def F_Book_check_new : Fn := ⟨d_Book_check_new, p_Book_check_new, N_Book_check_new, 17, b_Book_check_new_0⟩
theorem sc_Book_check_new : scOk N_Book_check_new p_Book_check_new d_Book_check_new.scope = true := by kernel_rfl
theorem er_Book_check_new : erSs tb N_Book_check_new d_Book_check_new.scope 60 d_Book_check_new.body = b_Book_check_new_0 := by kernel_rfl
def F_is_whole : Fn := ⟨d_is_whole, p_is_whole, N_is_whole, 18, b_is_whole_0⟩
theorem sc_is_whole : scOk N_is_whole p_is_whole d_is_whole.scope = true := by kernel_rfl
theorem er_is_whole : erSs tb N_is_whole d_is_whole.scope 60 d_is_whole.body = b_is_whole_0 := by kernel_rfl
def F_Book_keep : Fn := ⟨d_Book_keep, p_Book_keep, N_Book_keep, 19, b_Book_keep_0⟩
theorem sc_Book_keep : scOk N_Book_keep p_Book_keep d_Book_keep.scope = true := by kernel_rfl
theorem er_Book_keep : erSs tb N_Book_keep d_Book_keep.scope 60 d_Book_keep.body = b_Book_keep_0 := by kernel_rfl
def F_is_name : Fn := ⟨d_is_name, p_is_name, N_is_name, 16, b_is_name_0⟩
theorem sc_is_name : scOk N_is_name p_is_name d_is_name.scope = true := by kernel_rfl
theorem er_is_name : erSs tb N_is_name d_is_name.scope 60 d_is_name.body = b_is_name_0 := by kernel_rfl
def L : List Fn := [F_law_k03, F_law_pool, F_law_cell, F_law_wanting, F_Book_init, F_law_some_kind, F_law_same, F_variables, F_law_gathered, F_law_pairs, F_put_kinds, F_law_kind_put, F_law_behind, F_law_names, F_law_take, F_Book_declare_kind, F_fun_of, F_names_in, F_exchanged, F_Book_check_new, F_is_whole, F_Book_keep, F_is_name]
theorem bo_law_k03_0 {K : PySem.W.Frag} : BindOk K F_law_k03 [] := fun fd FF => ⟨[], [], FunD.bindsN (ps := p_law_k03) FF (fun _ _ _ _ _ _ us hl => match us, hl with | [_], _ => rfl), .nil, fun _ _ => .nil⟩
theorem bo_law_pool_0 {K : PySem.W.Frag} : BindOk K F_law_pool [] := fun fd FF => ⟨[], [], FunD.bindsN (ps := p_law_pool) FF (fun _ _ _ _ _ _ us hl => match us, hl with | [_], _ => rfl), .nil, fun _ _ => .nil⟩
theorem bo_law_cell_0 {K : PySem.W.Frag} : BindOk K F_law_cell [] := fun fd FF => ⟨[], [], FunD.bindsN (ps := p_law_cell) FF (fun _ _ _ _ _ _ us hl => match us, hl with | [_, _], _ => rfl), .nil, fun _ _ => .nil⟩
theorem bo_law_wanting_0 {K : PySem.W.Frag} : BindOk K F_law_wanting [] := fun fd FF => ⟨[], [], FunD.bindsN (ps := p_law_wanting) FF (fun _ _ _ _ _ _ us hl => match us, hl with | [_, _], _ => rfl), .nil, fun _ _ => .nil⟩
theorem bo_Book_init_0 {K : PySem.W.Frag} : BindOk K F_Book_init [] := fun fd FF => ⟨[], [], FunD.bindsN (ps := p_Book_init) FF (fun _ _ _ _ _ _ us hl => match us, hl with | [_], _ => rfl), .nil, fun _ _ => .nil⟩
theorem bo_law_some_kind_0 {K : PySem.W.Frag} : BindOk K F_law_some_kind [] := fun fd FF => ⟨[], [], FunD.bindsN (ps := p_law_some_kind) FF (fun _ _ _ _ _ _ us hl => match us, hl with | [_, _, _], _ => rfl), .nil, fun _ _ => .nil⟩
theorem bo_law_same_0 {K : PySem.W.Frag} : BindOk K F_law_same [] := fun fd FF => ⟨[], [], FunD.bindsN (ps := p_law_same) FF (fun _ _ _ _ _ _ us hl => match us, hl with | [_, _], _ => rfl), .nil, fun _ _ => .nil⟩
theorem bo_variables_0 {K : PySem.W.Frag} : BindOk K F_variables [] := fun fd FF => ⟨[], [], FunD.bindsN (ps := p_variables) FF (fun _ _ _ _ _ _ us hl => match us, hl with | [_], _ => rfl), .nil, fun _ _ => .nil⟩
theorem bo_law_gathered_0 {K : PySem.W.Frag} : BindOk K F_law_gathered [] := fun fd FF => ⟨[], [], FunD.bindsN (ps := p_law_gathered) FF (fun _ _ _ _ _ _ us hl => match us, hl with | [_], _ => rfl), .nil, fun _ _ => .nil⟩
theorem bo_law_pairs_0 {K : PySem.W.Frag} : BindOk K F_law_pairs [] := fun fd FF => ⟨[], [], FunD.bindsN (ps := p_law_pairs) FF (fun _ _ _ _ _ _ us hl => match us, hl with | [_, _, _], _ => rfl), .nil, fun _ _ => .nil⟩
theorem bo_put_kinds_0 {K : PySem.W.Frag} : BindOk K F_put_kinds [] := fun fd FF => ⟨[], [], FunD.bindsN (ps := p_put_kinds) FF (fun _ _ _ _ _ _ us hl => match us, hl with | [_, _], _ => rfl), .nil, fun _ _ => .nil⟩
theorem bo_law_kind_put_0 {K : PySem.W.Frag} : BindOk K F_law_kind_put [] := fun fd FF => ⟨[], [], FunD.bindsN (ps := p_law_kind_put) FF (fun _ _ _ _ _ _ us hl => match us, hl with | [_, _], _ => rfl), .nil, fun _ _ => .nil⟩
theorem bo_law_behind_0 {K : PySem.W.Frag} : BindOk K F_law_behind [] := fun fd FF => ⟨[], [], FunD.bindsN (ps := p_law_behind) FF (fun _ _ _ _ _ _ us hl => match us, hl with | [_, _], _ => rfl), .nil, fun _ _ => .nil⟩
theorem bo_law_names_0 {K : PySem.W.Frag} : BindOk K F_law_names [] := fun fd FF => ⟨[], [], FunD.bindsN (ps := p_law_names) FF (fun _ _ _ _ _ _ us hl => match us, hl with | [_], _ => rfl), .nil, fun _ _ => .nil⟩
theorem bo_law_take_0 {K : PySem.W.Frag} : BindOk K F_law_take [] := fun fd FF => ⟨[], [], FunD.bindsN (ps := p_law_take) FF (fun _ _ _ _ _ _ us hl => match us, hl with | [_, _], _ => rfl), .nil, fun _ _ => .nil⟩
theorem bo_Book_declare_kind_0 {K : PySem.W.Frag} : BindOk K F_Book_declare_kind [.int 0] := fun fd FF => by
  obtain ⟨ds, r, b⟩ := FunD.binds0 (ps := p_Book_declare_kind) FF 2 (by intro e; cases e) rfl (fun _ _ _ _ _ _ us its hu hi => match us, its, hu, hi with | [_, _], [_], _, _ => ⟨_, _, _, _, _, _, rfl, rfl, rfl⟩)
  exact ⟨ds, _, b, r, fun _ _ => (.cons (.int _) .nil)⟩
theorem bk_Book_declare_kind_0 {K : PySem.W.Frag} : KBindOk K F_Book_declare_kind (1 + 1) ["many"] := fun fd FF => by
  obtain ⟨mv, b⟩ := FunD.kbinds0 (ps := p_Book_declare_kind) FF 2 ["many"] [] (fun us _ ws => us ++ ws) (by intro e; cases e) (fun _ h => nomatch h) (fun r1 _ r3 => r1.append r3) (fun _ _ _ _ _ _ us mv ws hu hm hw => match us, mv, ws, hu, hm, hw with | [_, _], [], [_], _, _, _ => rfl)
  exact b
theorem bo_fun_of_0 {K : PySem.W.Frag} : BindOk K F_fun_of [] := fun fd FF => ⟨[], [], FunD.bindsN (ps := p_fun_of) FF (fun _ _ _ _ _ _ us hl => match us, hl with | [_, _], _ => rfl), .nil, fun _ _ => .nil⟩
theorem bo_names_in_0 {K : PySem.W.Frag} : BindOk K F_names_in [] := fun fd FF => ⟨[], [], FunD.bindsN (ps := p_names_in) FF (fun _ _ _ _ _ _ us hl => match us, hl with | [_], _ => rfl), .nil, fun _ _ => .nil⟩
theorem bo_exchanged_0 {K : PySem.W.Frag} : BindOk K F_exchanged [] := fun fd FF => ⟨[], [], FunD.bindsN (ps := p_exchanged) FF (fun _ _ _ _ _ _ us hl => match us, hl with | [_, _], _ => rfl), .nil, fun _ _ => .nil⟩
theorem bo_Book_check_new_0 {K : PySem.W.Frag} : BindOk K F_Book_check_new [] := fun fd FF => ⟨[], [], FunD.bindsN (ps := p_Book_check_new) FF (fun _ _ _ _ _ _ us hl => match us, hl with | [_, _, _], _ => rfl), .nil, fun _ _ => .nil⟩
theorem bo_is_whole_0 {K : PySem.W.Frag} : BindOk K F_is_whole [] := fun fd FF => ⟨[], [], FunD.bindsN (ps := p_is_whole) FF (fun _ _ _ _ _ _ us hl => match us, hl with | [_], _ => rfl), .nil, fun _ _ => .nil⟩
theorem bo_Book_keep_0 {K : PySem.W.Frag} : BindOk K F_Book_keep [] := fun fd FF => by
  obtain ⟨ds, r, b⟩ := FunD.binds1 (ps := p_Book_keep) FF 3 1 (by intro e; cases e) rfl (fun _ _ _ _ _ _ _ us its hu hi => match us, its, hu, hi with | [_, _, _], [_], _, _ => ⟨_, rfl, rfl⟩)
  exact ⟨ds, _, b, r, fun _ _ => .nil⟩
theorem bo_Book_keep_1 {K : PySem.W.Frag} : BindOk K F_Book_keep [.non] := fun fd FF => by
  obtain ⟨ds, r, b⟩ := FunD.binds1 (ps := p_Book_keep) FF 2 0 (by intro e; cases e) rfl (fun _ _ _ _ _ _ _ us its hu hi => match us, its, hu, hi with | [_, _], [_], _, _ => ⟨_, rfl, rfl⟩)
  exact ⟨ds, _, b, r, fun _ _ => (.cons .non .nil)⟩
theorem bo_is_name_0 {K : PySem.W.Frag} : BindOk K F_is_name [] := fun fd FF => ⟨[], [], FunD.bindsN (ps := p_is_name) FF (fun _ _ _ _ _ _ us hl => match us, hl with | [_], _ => rfl), .nil, fun _ _ => .nil⟩
end A_k03
set_option Elab.async false
set_option linter.all false
set_option maxRecDepth 100000
set_option maxHeartbeats 0
namespace A_k03
open PySem PySem.Spec L2 TR
open PyProof.Rows hiding St
def fa0 : List He.Fa := [.free "range",
  .free "max",
  .free "min",
  .free "len",
  .glo "_law_pool",
  .glo "_law_cell",
  .glo "_law_wanting",
  .glo "Book",
  .mkr "Book",
  .glo "_law_some_kind",
  .glo "_law_same",
  .glo "variables",
  .free "tuple",
  .free "sorted",
  .glo "_law_gathered",
  .glo "_law_pairs",
  .glo "put_kinds",
  .glo "_law_kind_put",
  .glo "_law_behind",
  .free "abs",
  .free "dict",
  .glo "_law_names",
  .glo "_law_take",
  .glo "fun_of",
  .glo "BOOL",
  .free "isinstance",
  .free "all",
  .free "zip",
  .free "str",
  .glo "names_in",
  .glo "exchanged",
  .free "divmod",
  .glo "is_whole",
  .int "MOST_WANTS" 3,
  .glo "is_name",
  .free "int",
  .free "bool",
  .int "MOST_LETTERS" 8,
  .str "LETTERS_kinds" "abcdefghijklmnopqrstuvwxyz",
  .cls "Book",
  .meth "Book" "declare_kind",
  .meth "Book" "check_new",
  .meth "Book" "keep",
  .noat "Book" "wants",
  .noat "Book" "constants",
  .noat "Book" "meanings",
  .noat "Book" "parted",
  .noat "Book" "axioms",
  .noat "Book" "kept",
  .glo "law"]
def fn0 : List He.DefD := [d_law_k03, d_law_pool, d_law_cell, d_law_wanting, d_Book_init, d_law_some_kind, d_law_same, d_variables, d_law_gathered, d_law_pairs, d_put_kinds, d_law_kind_put, d_law_behind, d_law_names, d_law_take, d_Book_declare_kind, d_fun_of, d_names_in, d_exchanged, d_Book_check_new, d_is_whole, d_Book_keep, d_is_name]
def ck0 (K : PySem.W.Frag) : Bool := He.tupB K "BOOL" [.str "bool"]
theorem ck_0 {K : PySem.W.Frag} (h : ck0 K = true) : He.tupB K "BOOL" [.str "bool"] = true := h
def atB (K : PySem.W.Frag) : CAt := fun c => if c = tx "Book" then some (He.ga K "Book") else none
theorem atB_Book (K : PySem.W.Frag) : atB K (tx "Book") = some (He.ga K "Book") := if_pos rfl
def noatF : List Str := ["wants", "constants", "meanings", "parted", "axioms", "kept"]
def noatB (c f : List Nat) : Bool := decide (c = tx "Book") && (noatF.any fun x => decide (x.cps.toList = f))
section
variable {K : PySem.W.Frag} {w : World} {mg : Str → Option Value} {h base : Heap}
theorem gl0 (X : K.In h) (G : h.Ns mainGlobals mg) (c : He.SaysD fa0 fn0 K) (ck : ck0 K = true) : ∀ p ∈ tbG0, StG ⟨P, w, K, mg, base⟩ (atB K) L p :=
  (List.forall_mem_cons.2 ⟨
  (stg_blt X G (c.fact 0 (f := .free "range") rfl)), (List.forall_mem_cons.2 ⟨
  (stg_blt X G (c.fact 1 (f := .free "max") rfl)), (List.forall_mem_cons.2 ⟨
  (stg_blt X G (c.fact 2 (f := .free "min") rfl)), (List.forall_mem_cons.2 ⟨
  (stg_blt X G (c.fact 3 (f := .free "len") rfl)), (List.forall_mem_cons.2 ⟨
  (stg_fn (List.mem_of_getElem? (i := 1) rfl) rfl rfl X G (c.fact 4 (f := .glo "_law_pool") rfl) (List.forall_mem_cons.2 ⟨bo_law_pool_0, (fun _ h => nomatch h)⟩)), (List.forall_mem_cons.2 ⟨
  (stg_fn (List.mem_of_getElem? (i := 2) rfl) rfl rfl X G (c.fact 5 (f := .glo "_law_cell") rfl) (List.forall_mem_cons.2 ⟨bo_law_cell_0, (fun _ h => nomatch h)⟩)), (List.forall_mem_cons.2 ⟨
  (stg_fn (List.mem_of_getElem? (i := 3) rfl) rfl rfl X G (c.fact 6 (f := .glo "_law_wanting") rfl) (List.forall_mem_cons.2 ⟨bo_law_wanting_0, (fun _ h => nomatch h)⟩)), (List.forall_mem_cons.2 ⟨
  (stg_cls (List.mem_of_getElem? (i := 4) rfl) rfl rfl X G (c.fact 7 (f := .glo "Book") rfl) (c.fact 8 (f := .mkr "Book") rfl) (atB_Book K) (List.forall_mem_cons.2 ⟨bo_Book_init_0, (fun _ h => nomatch h)⟩)), (List.forall_mem_cons.2 ⟨
  (stg_fn (List.mem_of_getElem? (i := 5) rfl) rfl rfl X G (c.fact 9 (f := .glo "_law_some_kind") rfl) (List.forall_mem_cons.2 ⟨bo_law_some_kind_0, (fun _ h => nomatch h)⟩)), (List.forall_mem_cons.2 ⟨
  (stg_fn (List.mem_of_getElem? (i := 6) rfl) rfl rfl X G (c.fact 10 (f := .glo "_law_same") rfl) (List.forall_mem_cons.2 ⟨bo_law_same_0, (fun _ h => nomatch h)⟩)), (List.forall_mem_cons.2 ⟨
  (stg_fn (List.mem_of_getElem? (i := 7) rfl) rfl rfl X G (c.fact 11 (f := .glo "variables") rfl) (List.forall_mem_cons.2 ⟨bo_variables_0, (fun _ h => nomatch h)⟩)), (List.forall_mem_cons.2 ⟨
  (stg_blt X G (c.fact 12 (f := .free "tuple") rfl)), (fun _ h => nomatch h)⟩)⟩)⟩)⟩)⟩)⟩)⟩)⟩)⟩)⟩)⟩)⟩)
theorem gl1 (X : K.In h) (G : h.Ns mainGlobals mg) (c : He.SaysD fa0 fn0 K) (ck : ck0 K = true) : ∀ p ∈ tbG1, StG ⟨P, w, K, mg, base⟩ (atB K) L p :=
  (List.forall_mem_cons.2 ⟨
  (stg_blt X G (c.fact 13 (f := .free "sorted") rfl)), (List.forall_mem_cons.2 ⟨
  (stg_fn (List.mem_of_getElem? (i := 8) rfl) rfl rfl X G (c.fact 14 (f := .glo "_law_gathered") rfl) (List.forall_mem_cons.2 ⟨bo_law_gathered_0, (fun _ h => nomatch h)⟩)), (List.forall_mem_cons.2 ⟨
  (stg_fn (List.mem_of_getElem? (i := 9) rfl) rfl rfl X G (c.fact 15 (f := .glo "_law_pairs") rfl) (List.forall_mem_cons.2 ⟨bo_law_pairs_0, (fun _ h => nomatch h)⟩)), (List.forall_mem_cons.2 ⟨
  (stg_fn (List.mem_of_getElem? (i := 10) rfl) rfl rfl X G (c.fact 16 (f := .glo "put_kinds") rfl) (List.forall_mem_cons.2 ⟨bo_put_kinds_0, (fun _ h => nomatch h)⟩)), (List.forall_mem_cons.2 ⟨
  (stg_fn (List.mem_of_getElem? (i := 11) rfl) rfl rfl X G (c.fact 17 (f := .glo "_law_kind_put") rfl) (List.forall_mem_cons.2 ⟨bo_law_kind_put_0, (fun _ h => nomatch h)⟩)), (List.forall_mem_cons.2 ⟨
  (stg_fn (List.mem_of_getElem? (i := 12) rfl) rfl rfl X G (c.fact 18 (f := .glo "_law_behind") rfl) (List.forall_mem_cons.2 ⟨bo_law_behind_0, (fun _ h => nomatch h)⟩)), (List.forall_mem_cons.2 ⟨
  (stg_blt X G (c.fact 19 (f := .free "abs") rfl)), (List.forall_mem_cons.2 ⟨
  (stg_blt X G (c.fact 20 (f := .free "dict") rfl)), (List.forall_mem_cons.2 ⟨
  (stg_fn (List.mem_of_getElem? (i := 13) rfl) rfl rfl X G (c.fact 21 (f := .glo "_law_names") rfl) (List.forall_mem_cons.2 ⟨bo_law_names_0, (fun _ h => nomatch h)⟩)), (List.forall_mem_cons.2 ⟨
  (stg_fn (List.mem_of_getElem? (i := 14) rfl) rfl rfl X G (c.fact 22 (f := .glo "_law_take") rfl) (List.forall_mem_cons.2 ⟨bo_law_take_0, (fun _ h => nomatch h)⟩)), (List.forall_mem_cons.2 ⟨
  (stg_fn (List.mem_of_getElem? (i := 16) rfl) rfl rfl X G (c.fact 23 (f := .glo "fun_of") rfl) (List.forall_mem_cons.2 ⟨bo_fun_of_0, (fun _ h => nomatch h)⟩)), (List.forall_mem_cons.2 ⟨
  (stg_tup (vs := [.str "bool"]) X G (c.fact 24 (f := .glo "BOOL") rfl) (ck_0 ck) fun _ _ => (.cons (.str _) .nil)), (fun _ h => nomatch h)⟩)⟩)⟩)⟩)⟩)⟩)⟩)⟩)⟩)⟩)⟩)⟩)
theorem gl2 (X : K.In h) (G : h.Ns mainGlobals mg) (c : He.SaysD fa0 fn0 K) (ck : ck0 K = true) : ∀ p ∈ tbG2, StG ⟨P, w, K, mg, base⟩ (atB K) L p :=
  (List.forall_mem_cons.2 ⟨
  (stg_blt X G (c.fact 25 (f := .free "isinstance") rfl)), (List.forall_mem_cons.2 ⟨
  (stg_blt X G (c.fact 26 (f := .free "all") rfl)), (List.forall_mem_cons.2 ⟨
  (stg_blt X G (c.fact 27 (f := .free "zip") rfl)), (List.forall_mem_cons.2 ⟨
  (stg_blt X G (c.fact 28 (f := .free "str") rfl)), (List.forall_mem_cons.2 ⟨
  (stg_fn (List.mem_of_getElem? (i := 17) rfl) rfl rfl X G (c.fact 29 (f := .glo "names_in") rfl) (List.forall_mem_cons.2 ⟨bo_names_in_0, (fun _ h => nomatch h)⟩)), (List.forall_mem_cons.2 ⟨
  (stg_fn (List.mem_of_getElem? (i := 18) rfl) rfl rfl X G (c.fact 30 (f := .glo "exchanged") rfl) (List.forall_mem_cons.2 ⟨bo_exchanged_0, (fun _ h => nomatch h)⟩)), (List.forall_mem_cons.2 ⟨
  (stg_blt X G (c.fact 31 (f := .free "divmod") rfl)), (List.forall_mem_cons.2 ⟨
  (stg_fn (List.mem_of_getElem? (i := 20) rfl) rfl rfl X G (c.fact 32 (f := .glo "is_whole") rfl) (List.forall_mem_cons.2 ⟨bo_is_whole_0, (fun _ h => nomatch h)⟩)), (List.forall_mem_cons.2 ⟨
  (stg_int X G (c.fact 33 (f := .int "MOST_WANTS" 3) rfl)), (List.forall_mem_cons.2 ⟨
  (stg_fn (List.mem_of_getElem? (i := 22) rfl) rfl rfl X G (c.fact 34 (f := .glo "is_name") rfl) (List.forall_mem_cons.2 ⟨bo_is_name_0, (fun _ h => nomatch h)⟩)), (List.forall_mem_cons.2 ⟨
  (stg_blt X G (c.fact 35 (f := .free "int") rfl)), (List.forall_mem_cons.2 ⟨
  (stg_blt X G (c.fact 36 (f := .free "bool") rfl)), (fun _ h => nomatch h)⟩)⟩)⟩)⟩)⟩)⟩)⟩)⟩)⟩)⟩)⟩)⟩)
theorem gl3 (X : K.In h) (G : h.Ns mainGlobals mg) (c : He.SaysD fa0 fn0 K) (ck : ck0 K = true) : ∀ p ∈ tbG3, StG ⟨P, w, K, mg, base⟩ (atB K) L p :=
  (List.forall_mem_cons.2 ⟨
  (stg_int X G (c.fact 37 (f := .int "MOST_LETTERS" 8) rfl)), (List.forall_mem_cons.2 ⟨
  (stg_str (z := "abcdefghijklmnopqrstuvwxyz") X G (c.fact 38 (f := .str "LETTERS_kinds" "abcdefghijklmnopqrstuvwxyz") rfl)), (fun _ h => nomatch h)⟩)⟩)
theorem ml0 (c : He.SaysD fa0 fn0 K) : ∀ p ∈ tbM, StM ⟨P, w, K, mg, base⟩ (atB K) L p :=
  (List.forall_mem_cons.2 ⟨
  (stm (x := "declare_kind") (List.mem_of_getElem? (i := 15) rfl) rfl rfl (atB_Book K) (c.fact 39 (f := .cls "Book") rfl) (c.fact 40 (f := .meth "Book" "declare_kind") rfl) (List.forall_mem_cons.2 ⟨bo_Book_declare_kind_0, (fun _ h => nomatch h)⟩) (List.forall_mem_cons.2 ⟨bk_Book_declare_kind_0, (fun _ h => nomatch h)⟩)), (List.forall_mem_cons.2 ⟨
  (stm (x := "check_new") (List.mem_of_getElem? (i := 19) rfl) rfl rfl (atB_Book K) (c.fact 39 (f := .cls "Book") rfl) (c.fact 41 (f := .meth "Book" "check_new") rfl) (List.forall_mem_cons.2 ⟨bo_Book_check_new_0, (fun _ h => nomatch h)⟩) (fun _ h => nomatch h)), (List.forall_mem_cons.2 ⟨
  (stm (x := "keep") (List.mem_of_getElem? (i := 21) rfl) rfl rfl (atB_Book K) (c.fact 39 (f := .cls "Book") rfl) (c.fact 42 (f := .meth "Book" "keep") rfl) (List.forall_mem_cons.2 ⟨bo_Book_keep_0, (List.forall_mem_cons.2 ⟨bo_Book_keep_1, (fun _ h => nomatch h)⟩)⟩) (fun _ h => nomatch h)), (fun _ h => nomatch h)⟩)⟩)⟩)
theorem cls0 (c : He.SaysD fa0 fn0 K) (m0 : List Addr) (H0 : Hp) : ClsOk K ⟨atB K, m0, H0⟩ noatB where
  cls := fun cn C e => by
    have e : (if cn = tx "Book" then some (He.ga K "Book") else none) = some C := e
    split at e
    · cases e
      exact He.cls_ok (c.fact 39 (f := .cls "Book") rfl)
    · cases e
  no := fun cn C f e hf => by
    have e : (if cn = tx "Book" then some (He.ga K "Book") else none) = some C := e
    split at e
    · cases e
      obtain ⟨_, h2⟩ := He.ba hf
      obtain ⟨x, hx, rfl⟩ : ∃ x ∈ noatF, x.cps.toList = f := by
        obtain ⟨x, hx, e⟩ := List.any_eq_true.mp h2
        exact ⟨x, hx, of_decide_eq_true e⟩
      rw [mkS_toList]
      have all : ∀ x ∈ noatF, NoAttr K (He.ga K "Book") x := (List.forall_mem_cons.2 ⟨(He.noat_ok (c.fact 43 (f := .noat "Book" "wants") rfl)), (List.forall_mem_cons.2 ⟨(He.noat_ok (c.fact 44 (f := .noat "Book" "constants") rfl)), (List.forall_mem_cons.2 ⟨(He.noat_ok (c.fact 45 (f := .noat "Book" "meanings") rfl)), (List.forall_mem_cons.2 ⟨(He.noat_ok (c.fact 46 (f := .noat "Book" "parted") rfl)), (List.forall_mem_cons.2 ⟨(He.noat_ok (c.fact 47 (f := .noat "Book" "axioms") rfl)), (List.forall_mem_cons.2 ⟨(He.noat_ok (c.fact 48 (f := .noat "Book" "kept") rfl)), (fun _ h => nomatch h)⟩)⟩)⟩)⟩)⟩)⟩)
      exact all x hx
    · cases e
theorem lay (X : K.In h) (G : h.Ns mainGlobals mg) (c : He.SaysD fa0 fn0 K) (ck : ck0 K = true) : Lay ⟨P, w, K, mg, base⟩ (atB K) noatB tb L where
  fns := (List.forall_mem_cons.2 ⟨(c.def_ 0 (d := d_law_k03) rfl), (List.forall_mem_cons.2 ⟨(c.def_ 1 (d := d_law_pool) rfl), (List.forall_mem_cons.2 ⟨(c.def_ 2 (d := d_law_cell) rfl), (List.forall_mem_cons.2 ⟨(c.def_ 3 (d := d_law_wanting) rfl), (List.forall_mem_cons.2 ⟨(c.def_ 4 (d := d_Book_init) rfl), (List.forall_mem_cons.2 ⟨(c.def_ 5 (d := d_law_some_kind) rfl), (List.forall_mem_cons.2 ⟨(c.def_ 6 (d := d_law_same) rfl), (List.forall_mem_cons.2 ⟨(c.def_ 7 (d := d_variables) rfl), (List.forall_mem_cons.2 ⟨(c.def_ 8 (d := d_law_gathered) rfl), (List.forall_mem_cons.2 ⟨(c.def_ 9 (d := d_law_pairs) rfl), (List.forall_mem_cons.2 ⟨(c.def_ 10 (d := d_put_kinds) rfl), (List.forall_mem_cons.2 ⟨(c.def_ 11 (d := d_law_kind_put) rfl), (List.forall_mem_cons.2 ⟨(c.def_ 12 (d := d_law_behind) rfl), (List.forall_mem_cons.2 ⟨(c.def_ 13 (d := d_law_names) rfl), (List.forall_mem_cons.2 ⟨(c.def_ 14 (d := d_law_take) rfl), (List.forall_mem_cons.2 ⟨(c.def_ 15 (d := d_Book_declare_kind) rfl), (List.forall_mem_cons.2 ⟨(c.def_ 16 (d := d_fun_of) rfl), (List.forall_mem_cons.2 ⟨(c.def_ 17 (d := d_names_in) rfl), (List.forall_mem_cons.2 ⟨(c.def_ 18 (d := d_exchanged) rfl), (List.forall_mem_cons.2 ⟨(c.def_ 19 (d := d_Book_check_new) rfl), (List.forall_mem_cons.2 ⟨(c.def_ 20 (d := d_is_whole) rfl), (List.forall_mem_cons.2 ⟨(c.def_ 21 (d := d_Book_keep) rfl), (List.forall_mem_cons.2 ⟨(c.def_ 22 (d := d_is_name) rfl), (fun _ h => nomatch h)⟩)⟩)⟩)⟩)⟩)⟩)⟩)⟩)⟩)⟩)⟩)⟩)⟩)⟩)⟩)⟩)⟩)⟩)⟩)⟩)⟩)⟩)⟩)
  scs := (List.forall_mem_cons.2 ⟨⟨sc_law_k03, er_law_k03⟩, (List.forall_mem_cons.2 ⟨⟨sc_law_pool, er_law_pool⟩, (List.forall_mem_cons.2 ⟨⟨sc_law_cell, er_law_cell⟩, (List.forall_mem_cons.2 ⟨⟨sc_law_wanting, er_law_wanting⟩, (List.forall_mem_cons.2 ⟨⟨sc_Book_init, er_Book_init⟩, (List.forall_mem_cons.2 ⟨⟨sc_law_some_kind, er_law_some_kind⟩, (List.forall_mem_cons.2 ⟨⟨sc_law_same, er_law_same⟩, (List.forall_mem_cons.2 ⟨⟨sc_variables, er_variables⟩, (List.forall_mem_cons.2 ⟨⟨sc_law_gathered, er_law_gathered⟩, (List.forall_mem_cons.2 ⟨⟨sc_law_pairs, er_law_pairs⟩, (List.forall_mem_cons.2 ⟨⟨sc_put_kinds, er_put_kinds⟩, (List.forall_mem_cons.2 ⟨⟨sc_law_kind_put, er_law_kind_put⟩, (List.forall_mem_cons.2 ⟨⟨sc_law_behind, er_law_behind⟩, (List.forall_mem_cons.2 ⟨⟨sc_law_names, er_law_names⟩, (List.forall_mem_cons.2 ⟨⟨sc_law_take, er_law_take⟩, (List.forall_mem_cons.2 ⟨⟨sc_Book_declare_kind, er_Book_declare_kind⟩, (List.forall_mem_cons.2 ⟨⟨sc_fun_of, er_fun_of⟩, (List.forall_mem_cons.2 ⟨⟨sc_names_in, er_names_in⟩, (List.forall_mem_cons.2 ⟨⟨sc_exchanged, er_exchanged⟩, (List.forall_mem_cons.2 ⟨⟨sc_Book_check_new, er_Book_check_new⟩, (List.forall_mem_cons.2 ⟨⟨sc_is_whole, er_is_whole⟩, (List.forall_mem_cons.2 ⟨⟨sc_Book_keep, er_Book_keep⟩, (List.forall_mem_cons.2 ⟨⟨sc_is_name, er_is_name⟩, (fun _ h => nomatch h)⟩)⟩)⟩)⟩)⟩)⟩)⟩)⟩)⟩)⟩)⟩)⟩)⟩)⟩)⟩)⟩)⟩)⟩)⟩)⟩)⟩)⟩)⟩)
  gl := List.forall_mem_append.2 ⟨List.forall_mem_append.2 ⟨List.forall_mem_append.2 ⟨gl0 X G c ck, gl1 X G c ck⟩, gl2 X G c ck⟩, gl3 X G c ck⟩
  ml := ml0 c
  cls := cls0 c
theorem noatB_ok : Nob noatB := by decide +kernel
theorem steps : Steps (lev g_k03) noatB L :=
  (List.forall_mem_cons.2 ⟨
  (fun j => ⟨rfl, fun ts S Q _ h => stp_law_k03 j ts S Q h⟩), (List.forall_mem_cons.2 ⟨
  (fun j => ⟨rfl, fun ts S Q _ h => stp_law_pool j ts S Q h⟩), (List.forall_mem_cons.2 ⟨
  (fun j => ⟨rfl, fun ts S Q _ h => stp_law_cell j ts S Q h⟩), (List.forall_mem_cons.2 ⟨
  (fun j => ⟨rfl, fun ts S Q _ h => stp_law_wanting noatB_ok j ts S Q h⟩), (List.forall_mem_cons.2 ⟨
  (fun j => ⟨rfl, fun ts S Q _ h => stp_Book_init noatB_ok j ts S Q h⟩), (List.forall_mem_cons.2 ⟨
  (fun j => ⟨rfl, fun ts S Q _ h => stp_law_some_kind j ts S Q h⟩), (List.forall_mem_cons.2 ⟨
  (fun j => ⟨rfl, fun ts S Q _ h => stp_law_same j ts S Q h⟩), (List.forall_mem_cons.2 ⟨
  (fun j => ⟨rfl, fun ts S Q _ h => stp_variables j ts S Q h⟩), (List.forall_mem_cons.2 ⟨
  (fun j => ⟨rfl, fun ts S Q _ h => stp_law_gathered j ts S Q h⟩), (List.forall_mem_cons.2 ⟨
  (fun j => ⟨rfl, fun ts S Q _ h => stp_law_pairs j ts S Q h⟩), (List.forall_mem_cons.2 ⟨
  (fun j => ⟨rfl, fun ts S Q _ h => stp_put_kinds j ts S Q h⟩), (List.forall_mem_cons.2 ⟨
  (fun j => ⟨rfl, fun ts S Q _ h => stp_law_kind_put j ts S Q h⟩), (List.forall_mem_cons.2 ⟨
  (fun j => ⟨rfl, fun ts S Q _ h => stp_law_behind j ts S Q h⟩), (List.forall_mem_cons.2 ⟨
  (fun j => ⟨rfl, fun ts S Q _ h => stp_law_names j ts S Q h⟩), (List.forall_mem_cons.2 ⟨
  (fun j => ⟨rfl, fun ts S Q _ h => stp_law_take j ts S Q h⟩), (List.forall_mem_cons.2 ⟨
  (fun j => ⟨rfl, fun ts S Q _ h => stp_Book_declare_kind noatB_ok j ts S Q h⟩), (List.forall_mem_cons.2 ⟨
  (fun j => ⟨rfl, fun ts S Q _ h => stp_fun_of j ts S Q h⟩), (List.forall_mem_cons.2 ⟨
  (fun j => ⟨rfl, fun ts S Q _ h => stp_names_in j ts S Q h⟩), (List.forall_mem_cons.2 ⟨
  (fun j => ⟨rfl, fun ts S Q _ h => stp_exchanged j ts S Q h⟩), (List.forall_mem_cons.2 ⟨
  (fun j => ⟨rfl, fun ts S Q _ h => stp_Book_check_new j ts S Q h⟩), (List.forall_mem_cons.2 ⟨
  (fun j => ⟨rfl, fun ts S Q _ h => stp_is_whole j ts S Q h⟩), (List.forall_mem_cons.2 ⟨
  (fun j => ⟨rfl, fun ts S Q _ h => stp_Book_keep noatB_ok j ts S Q h⟩), (List.forall_mem_cons.2 ⟨
  (fun j => ⟨rfl, fun ts S Q _ h => stp_is_name j ts S Q h⟩), (fun _ h => nomatch h)⟩)⟩)⟩)⟩)⟩)⟩)⟩)⟩)⟩)⟩)⟩)⟩)⟩)⟩)⟩)⟩)⟩)⟩)⟩)⟩)⟩)⟩)⟩)
theorem facts {f : Addr} (X : K.In h) (G : h.Ns mainGlobals mg) (hfa : mg ("law" : Str) = some (.ref f)) (c : He.SaysD fa0 fn0 K) (ck : ck0 K = true) :
    ∃ fd : FuncData, (∀ (s : Shared) (v : Value), BindsTo s fd ⟨[v], []⟩ [("_law_script", v)]) ∧ ∀ base : Heap, K.In base → base.Ns mainGlobals mg → FnOk P w K mg base CX0 23 f fd ["_law_script"] (liftSp K (atB K) (co_law_k03 21)) := by
  obtain ⟨fd, F⟩ := c.def_ 0 (d := d_law_k03) rfl
  have e := hfa.symm.trans (He.glo_ok X G (c.fact 49 (f := .glo "law") rfl))
  cases e
  have b := FunD.bindsA (ps := p_law_k03) F fun _ _ _ _ _ _ us hl => match us, hl with | [_], _ => rfl
  refine ⟨fd, fun s v => b s [v] rfl, fun base _ _ => ?_⟩
  obtain ⟨fd2, F2, ok⟩ := (good (lay (w := w) (base := base) X G c ck) steps (fun _ => ⟨_, rfl⟩) (fun _ => ⟨_, rfl⟩) 23).1 F_law_k03 (List.mem_of_getElem? (i := 0) rfl)
  cases FunD.uniq F F2
  exact ok
end
end A_k03
set_option Elab.async false
set_option linter.all false
set_option maxRecDepth 100000
set_option maxHeartbeats 0
namespace A_k03
open PySem PySem.Spec L2 TR
open PyProof.Rows hiding St
def as0 : List Addr := [3, 787, 786, 787, 859, 805, 798, 824, 602, 829, 839, 238, 844, 849, 248, 834, 854, 817, 812, 665, 218, 233, 243, 636, 576, 629, 211, 858, 804, 797, 823, 601, 828, 838, 237, 843, 848, 247, 833, 853, 816, 811, 664, 658, 217, 232, 242, 635, 575, 628, 622, 210, 206]
abbrev R : PySem.W.OpenRow := PySem.W.OpenLaw.row PySem.Challenge.rw_tenrules_k03_variables_and_kinds_exchang
abbrev qv : Program := PySem.W.view R.prog [98]
abbrev hk : PySem.W.Hook := hookC as0 fa0 fn0 ck0
def ob (s : PySem.W.SharedT) : He.AlD × Bool := obsCG as0 fa0 fn0 ck0 (HandSHeadRun.getT s)
theorem ob_eq (s : PySem.W.SharedT) : ob s = hk.obs s.abs := obsCG_eq (HandSHeadRun.getT_eq s)
def names0 : List PySem.Str := ["_wall", "KernelError", "LostError", "NoName", "NoTerm", "NoNumber", "Taken", "NoBool", "NoSequent", "NoRow", "NoFit", "NoRedex", "NoPairs", "NoClosed", "NoSuch", "LETTERS_kinds", "MOST_LETTERS", "BOOL", "is_name", "fun_of", "is_kind", "show_kind", "names_in", "variables", "exchanged", "put_kinds", "are_kind_pairs", "var_of", "const_of", "app_of"]
def names1 : List PySem.Str := ["kind_of", "eq_of", "matches", "is_named", "fits_constant", "is_application", "is_term", "free_in", "free", "MARKS", "code_in", "code", "alike", "Sequent", "hyps_text", "kinds_of_term", "variables_in", "told_define", "part_of", "parted_kind", "into_kind", "out_kind", "told_subkind", "told_whole", "LETTERS_putting", "fresh", "names_of", "put_for", "put_behind", "put_by"]
def names2 : List PySem.Str := ["put", "put_in_kinds", "is_variable", "is_pair", "are_pairs", "told_refl", "told_beta", "check_bool", "told_assume", "told_inst", "told_kinds", "MOST_WANTS", "WITH_TERM", "is_whole", "are_alike_pairs", "are_alike_deeds", "Book", "_law_cell", "_law_pool", "_law_take", "_law_names", "_law_wanting", "_law_some_kind", "_law_kind_put", "_law_same", "_law_gathered", "_law_pairs", "_law_behind"]
def names : List PySem.Str := names0 ++ names1 ++ names2
theorem run (w : World) : HandSHeadRun.RunEq R qv hk ob 9000 names w := by
  refine PySem.W.byRow2 "special-get-raises" (P := fun w => HandSHeadRun.RunEq R qv hk ob 9000 names w) (fun w => ?_) (fun w => ?_) w
  · intro os
    kernel_rfl
  · intro os
    kernel_rfl
theorem law_run (ns : List Int) : (co_law_k03 21).run [.frz (ns.map .int)] [] fun r _ => r = .bl true := ⟨ns, rfl, Nat.le_refl _, fun _ _ e => e⟩
open PySem PySem.W PySem.Calls PyProof.Rows in
theorem holds : PySem.Challenge.rw_tenrules_k03_variables_and_kinds_exchang.Holds := by
  w_on; o_law
  refine HandSHeadRun.head_any (r := R) (q := qv) (H := hk) (ob := ob) (M := 9000) (loose := names) (d := HandSHeadRun.topDef R.prog 98) (kwd := []) ob_eq
    (by kernel_rfl) (fun s => by kernel_rfl) run (by kernel_rfl) (by kernel_rfl) (by kernel_rfl) (by rfl) (by first | assumption | decide +kernel) (by decide +kernel) ⟨rfl, rfl, rfl, rfl, rfl, by decide +kernel⟩ ?hw ?hc
  case hw => w_witness2
  case hc =>
    refine L2.walk_ofE (l := PySem.Challenge.rw_tenrules_k03_variables_and_kinds_exchang) (n := 63) (k := 23) (x := "_law_script") (CX := L2.CX0) rfl (by decide) (by kernel_rfl) ⟨rfl, by decide, by decide⟩ ?F (fun _ _ _ _ z => z)
    intro w mg fa h Y G hmg0
    obtain ⟨K, KX, c, ck⟩ := Y
    have hmg : mg ("law" : PySem.Str) = some (.ref fa) := by
      have e : (HandSHeadRun.topDef R.prog 98).name = ("law" : PySem.Str) := by kernel_rfl
      rw [← e]
      exact hmg0
    obtain ⟨fd, hb, hF⟩ := facts (w := w) KX G hmg c ck
    exact ⟨K, fd, liftSp K (atB K) (co_law_k03 21), KX, hb, fun H a ns hl hO hS => law_sp rfl hO hS (law_run ns), hF⟩
end A_k03
theorem PySem.Challenge.cw_tenrules_k03_variables_and_kinds_exchang_holds : PySem.Challenge.rw_tenrules_k03_variables_and_kinds_exchang.Holds := by
  exact A_k03.holds
