import PyProof.Rows.All
import Wide.All
import OpenK.AllK
import Wide.FinOn
import HandS.ForMost
import HandS.Deep
import HandS.TupAny
import HandS.TupLen
import HandS.TupLe
import HandS.IsInst
import HandS.Conv
import HandS.SetFor
import HandS.Strs
import HandS.Zip
import HandS.SortInts
import HandS.DictComp
import HandS.DictTup
import HandS.Exc
import HandS.ExcOwn
import HandS.WordsExc
import HandS.TryOnly
import HandS.ExcIs
import HandS.Small
import KE.SortData
import HandS.Star
import HandS.TupMul
import KE.KDictKeyed
import KE.KDictDisplayH
import KE.KEqDict
import KE.GoesEnum
import PySem.Challenge.RW_shapeholes_k95_whole_matchings
set_option Elab.async false
set_option linter.all false
set_option maxRecDepth 100000
set_option maxHeartbeats 1000000
/-! Kinds of data (numbers, simplices, pairs, tuples of these) and rules over them. -/
namespace Sh
open PySem L2

/-! ### heaps that grow, tuples that stay -/
def Ex (H H' : Hp) : Prop := ∀ a o, H a = some o → H' a = some o
/-- the tuples stay, those that are known to the object too -/
structure TEx (H H' : Hp) : Prop where
  d : ∀ a xs, H a = some (.tup xs) → H' a = some (.tup xs)
  f : ∀ a o xs, H a = some (.frz o (.tup xs)) → H' a = some (.frz o (.tup xs))
theorem Ex.refl (H : Hp) : Ex H H := fun _ _ h => h
theorem Ex.trans {H H1 H2 : Hp} (a : Ex H H1) (b : Ex H1 H2) : Ex H H2 := fun x o h => b x o (a x o h)
theorem Ex.new {H : Hp} {p : Addr} {o : HO} (h : H p = none) : Ex H (upd H p o) := fun a u e => by
  rw [upd_ne (ne_of_none e h)]
  exact e
/-- an object that H does not know may change -/
theorem Ex.mut {H H' : Hp} {p : Addr} {o : HO} (e : Ex H H') (h : H p = none) : Ex H (upd H' p o) := fun a u ha => by
  rw [upd_ne (ne_of_none ha h)]
  exact e a u ha
theorem Ex.t {H H' : Hp} (e : Ex H H') : TEx H H' := ⟨fun a xs h => e a _ h, fun a o xs h => e a _ h⟩
theorem TEx.refl (H : Hp) : TEx H H := (Ex.refl H).t
theorem TEx.trans {H H1 H2 : Hp} (a : TEx H H1) (b : TEx H1 H2) : TEx H H2 := ⟨fun x o h => b.d x o (a.d x o h), fun x o u h => b.f x o u (a.f x o u h)⟩
theorem TEx.rd {H H' : Hp} {a : Addr} {xs : List V} (e : TEx H H') (h : Rd H a (.tup xs)) : Rd H' a (.tup xs) := by
  rcases h with h | ⟨o, h⟩
  · exact .inl (e.d a xs h)
  · exact .inr ⟨o, e.f a o xs h⟩
/-- a change of a thing that is no tuple -/
theorem TEx.wr {H : Hp} {p : Addr} {o u : HO} (h : H p = some u) (hu : ∀ xs, u ≠ .tup xs) (hf : ∀ ob xs, u ≠ .frz ob (.tup xs)) : TEx H (upd H p o) := by
  refine ⟨fun a xs e => ?_, fun a ob xs e => ?_⟩
  · have n : a ≠ p := fun q => by
      rw [q, h] at e
      exact hu xs (Option.some.inj e)
    rw [upd_ne n]
    exact e
  · have n : a ≠ p := fun q => by
      rw [q, h] at e
      exact hf ob xs (Option.some.inj e)
    rw [upd_ne n]
    exact e
theorem TEx.wrL {H : Hp} {p : Addr} {o : HO} {xs : List V} (h : H p = some (.lst xs)) : TEx H (upd H p o) := TEx.wr h (fun _ z => nomatch z) fun _ _ z => nomatch z
theorem TEx.wrT {H : Hp} {p : Addr} {o : HO} {xs : List (List Key × V)} (h : H p = some (.dT xs)) : TEx H (upd H p o) := TEx.wr h (fun _ z => nomatch z) fun _ _ z => nomatch z
theorem TEx.wrF {H : Hp} {p : Addr} {o : HO} {ob : Obj} {kvs : List (List Key × V)} (h : H p = some (.frz ob (.dT kvs))) : TEx H (upd H p o) := TEx.wr h (fun _ z => nomatch z) fun _ _ z => nomatch z
theorem TEx.wrI {H : Hp} {p : Addr} {o : HO} {C dx : Addr} {fs : List (Str × V)} (h : H p = some (.ins C dx fs)) : TEx H (upd H p o) := TEx.wr h (fun _ z => nomatch z) fun _ _ z => nomatch z
theorem TEx.new {H : Hp} {p : Addr} {o : HO} (h : H p = none) : TEx H (upd H p o) := (Ex.new h).t
theorem SqT.rd {K : PySem.W.Frag} {H : Hp} {a : Addr} {xs : List V} (h : Rd H a (.tup xs)) : SqT K H a xs := Or.inl h
/-- what H' does not know, H does not know -/
theorem Ex.back {H H' : Hp} {p : Addr} (e : Ex H H') (h : H' p = none) : H p = none := by
  cases h1 : H p with
  | none => rfl
  | some o =>
    rw [e p o h1] at h
    cases h
/-- a thing that was locked and is unlocked again -/
theorem Ex.unlock {H H' : Hp} {d : Addr} {od : Obj} {u : HO} (h : H d = some u) (e : Ex (upd H d (.frz od u)) H') : Ex H (upd H' d u) := fun a o ha => by
  by_cases q : a = d
  · rw [q, upd_same, ← h, ← q]
    exact ha
  · rw [upd_ne q]
    exact e a o (by rw [upd_ne q]; exact ha)
theorem Ex.at {H H' : Hp} {a : Addr} {o : HO} (e : Ex H H') (h : H a = some o) : H' a = some o := e a o h
theorem ne_of_new {H H' : Hp} {a b : Addr} {o : HO} (h : H' a = some o) (hb : H' b = none) : a ≠ b := ne_of_none h hb
theorem old_ne {H H' : Hp} {a b : Addr} {o : HO} (e : Ex H H') (ha : H a = some o) (hb : H b = none) : a ≠ b := ne_of_none ha hb

/-! ### rows of things -/
theorem pr_append {α β : Type} {F : α → β → Prop} : ∀ {xs : List α} {ys : List β} {us : List α} {ws : List β}, Paired F xs ys → Paired F us ws → Paired F (xs ++ us) (ys ++ ws)
  | _, _, _, _, .nil, s => s
  | _, _, _, _, .cons r t, s => .cons r (pr_append t s)
theorem pr_snoc {α β : Type} {F : α → β → Prop} {xs : List α} {ys : List β} {x : α} {y : β} (h : Paired F xs ys) (r : F x y) : Paired F (xs ++ [x]) (ys ++ [y]) := pr_append h (.cons r .nil)
theorem pr_len {α β : Type} {F : α → β → Prop} {xs : List α} {ys : List β} (h : Paired F xs ys) : xs.length = ys.length := Paired.length h
theorem pr_get {α β : Type} {F : α → β → Prop} : ∀ {xs : List α} {ys : List β} {i : Nat} {x : α}, Paired F xs ys → xs[i]? = some x → ∃ y, ys[i]? = some y ∧ F x y
  | _, _, _, _, .nil, e => by simp at e
  | _, _, 0, _, .cons r _, e => by simp at e; subst e; exact ⟨_, rfl, r⟩
  | _, _, i + 1, x, .cons _ t, e => by
    obtain ⟨u, h1, h2⟩ := pr_get (i := i) (x := x) t (by simpa using e)
    exact ⟨u, by simpa using h1, h2⟩
theorem pr_get' {α β : Type} {F : α → β → Prop} : ∀ {xs : List α} {ys : List β} {i : Nat} {y : β}, Paired F xs ys → ys[i]? = some y → ∃ x, xs[i]? = some x ∧ F x y
  | _, _, _, _, .nil, e => by simp at e
  | _, _, 0, _, .cons r _, e => by simp at e; subst e; exact ⟨_, rfl, r⟩
  | _, _, i + 1, x, .cons _ t, e => by
    obtain ⟨u, h1, h2⟩ := pr_get' (i := i) (y := x) t (by simpa using e)
    exact ⟨u, by simpa using h1, h2⟩
theorem pr_mono {α β : Type} {F G : α → β → Prop} : ∀ {xs : List α} {ys : List β}, Paired F xs ys → (∀ x y, F x y → G x y) → Paired G xs ys
  | _, _, .nil, _ => .nil
  | _, _, .cons r t, f => .cons (f _ _ r) (pr_mono t f)
theorem pr_drop {α β : Type} {F : α → β → Prop} : ∀ {xs : List α} {ys : List β} (n : Nat), Paired F xs ys → Paired F (xs.drop n) (ys.drop n)
  | _, _, 0, h => h
  | _, _, _ + 1, .nil => .nil
  | _, _, n + 1, .cons _ t => pr_drop n t
theorem pr_take {α β : Type} {F : α → β → Prop} : ∀ {xs : List α} {ys : List β} (n : Nat), Paired F xs ys → Paired F (xs.take n) (ys.take n)
  | _, _, 0, _ => .nil
  | _, _, _ + 1, .nil => .nil
  | _, _, n + 1, .cons r t => .cons r (pr_take n t)
theorem pr_erase {α β : Type} {F : α → β → Prop} : ∀ {xs : List α} {ys : List β} (n : Nat), Paired F xs ys → Paired F (xs.eraseIdx n) (ys.eraseIdx n)
  | _, _, _, .nil => .nil
  | _, _, 0, .cons _ t => t
  | _, _, n + 1, .cons r t => .cons r (pr_erase n t)
theorem pr_map {α β : Type} {F : α → β → Prop} (f : β → α) (h : ∀ y, F (f y) y) : ∀ ys : List β, Paired F (ys.map f) ys
  | [] => .nil
  | y :: ys => .cons (h y) (pr_map f h ys)
theorem pr_mapR {α β γ : Type} {F : α → β → Prop} {G : α → γ → Prop} (f : β → γ) : ∀ {xs : List α} {ys : List β}, Paired F xs ys → (∀ x y, F x y → G x (f y)) → Paired G xs (ys.map f)
  | _, _, .nil, _ => .nil
  | _, _, .cons r t, h => .cons (h _ _ r) (pr_mapR f t h)
theorem pr_eq_map {α β : Type} {f : β → α} : ∀ {xs : List α} {ys : List β}, Paired (fun x y => x = f y) xs ys → xs = ys.map f
  | _, _, .nil => rfl
  | _, _, .cons r t => by rw [r, pr_eq_map t]; rfl
theorem pr_mem {α β : Type} {F : α → β → Prop} {xs : List α} {ys : List β} (h : Paired F xs ys) {x : α} (hx : x ∈ xs) : ∃ y ∈ ys, F x y := by
  obtain ⟨i, hi, rfl⟩ := List.mem_iff_getElem.mp hx
  obtain ⟨y, e, r⟩ := pr_get h (List.getElem?_eq_getElem hi)
  exact ⟨y, List.mem_of_getElem? e, r⟩

/-! ### kinds of data -/
structure Kd (β : Type) where
  R : Hp → V → β → Prop
  enc : β → PyData
  dp : ∀ (K : PySem.W.Frag) (H : Hp) (v : V) (b : β), R H v b → Dp K H v (enc b)
  eq : ∀ b c : β, PyData.eqv (enc b) (enc c) = true ↔ b = c
  lay : ∀ b, (enc b).canLay0 = true
  deep : Nat
  depth : ∀ b, (enc b).depth ≤ deep
  mono : ∀ {H H' : Hp} {v : V} {b : β}, TEx H H' → R H v b → R H' v b

theorem canAll {β : Type} (k : Kd β) : ∀ bs : List β, PyData.canLayAll0 (bs.map k.enc) = true
  | [] => by simp [PyData.canLayAll0]
  | b :: bs => by simp [PyData.canLayAll0, k.lay b, canAll k bs]
theorem depthAll {β : Type} (k : Kd β) : ∀ bs : List β, PyData.depthAll (bs.map k.enc) ≤ k.deep
  | [] => by simp [PyData.depthAll]
  | b :: bs => by
    have h1 := depthAll k bs
    have h2 := k.depth b
    simp only [List.map_cons, PyData.depthAll]
    omega
theorem shaped_enc {β : Type} (k : Kd β) (b : β) (h : k.deep ≤ 60) : SeqAt.shaped (k.enc b) = true := by
  have h2 := k.depth b
  show ((k.enc b).canLay0 && decide ((k.enc b).depth ≤ 64)) = true
  rw [Bool.and_eq_true]
  exact ⟨k.lay b, decide_eq_true (by omega)⟩
theorem shaped_lst {β : Type} (k : Kd β) (bs : List β) (h : k.deep ≤ 60) : SeqAt.shaped (.list (bs.map k.enc)) = true := by
  have h1 := depthAll k bs
  show (PyData.canLay0 (.list (bs.map k.enc)) && decide (PyData.depth (.list (bs.map k.enc)) ≤ 64)) = true
  rw [Bool.and_eq_true]
  refine ⟨by simp only [PyData.canLay0]; exact canAll k bs, decide_eq_true ?_⟩
  simp only [PyData.depth]
  omega
theorem shaped_tup {β : Type} (k : Kd β) (bs : List β) (h : k.deep ≤ 60) : SeqAt.shaped (.tuple (bs.map k.enc)) = true := by
  have h1 := depthAll k bs
  show (PyData.canLay0 (.tuple (bs.map k.enc)) && decide (PyData.depth (.tuple (bs.map k.enc)) ≤ 64)) = true
  rw [Bool.and_eq_true]
  refine ⟨by simp only [PyData.canLay0]; exact canAll k bs, decide_eq_true ?_⟩
  simp only [PyData.depth]
  omega
theorem eqvAll_enc {β : Type} (k : Kd β) : ∀ bs cs : List β, PyData.eqvAll (bs.map k.enc) (cs.map k.enc) = true ↔ bs = cs
  | [], [] => by simp [PyData.eqvAll]
  | [], c :: cs => by simp [PyData.eqvAll]
  | b :: bs, [] => by simp [PyData.eqvAll]
  | b :: bs, c :: cs => by
    simp only [List.map_cons, PyData.eqvAll, Bool.and_eq_true, eqvAll_enc k bs cs, k.eq b c, List.cons.injEq]
theorem dpAll_of {β : Type} (k : Kd β) {K : PySem.W.Frag} {H : Hp} : ∀ {vs : List V} {bs : List β}, Paired (k.R H) vs bs → DpAll K H vs (bs.map k.enc)
  | _, _, .nil => .nil
  | _, _, .cons r t => .cons (k.dp K H _ _ r) (dpAll_of k t)
theorem pr_kmono {β : Type} (k : Kd β) {H H' : Hp} {vs : List V} {bs : List β} (e : TEx H H') (h : Paired (k.R H) vs bs) : Paired (k.R H') vs bs := pr_mono h fun _ _ r => k.mono e r

/-- whole numbers -/
def kI : Kd Int where
  R := fun _ v i => v = .int i
  enc := .int
  dp := fun K H v b r => by rw [r]; exact .int b
  eq := fun b c => by simp [PyData.eqv]
  lay := fun b => by simp [PyData.canLay0]
  deep := 0
  depth := fun b => by simp [PyData.depth]
  mono := fun _ r => r
theorem ints_pr {vs : List V} {ns : List Int} {H : Hp} (h : Paired (kI.R H) vs ns) : vs = ns.map V.int := pr_eq_map h
theorem pr_ints (H : Hp) (ns : List Int) : Paired (kI.R H) (ns.map V.int) ns := pr_map V.int (fun _ => rfl) ns

abbrev Sx := List Int
/-- a tuple of whole numbers -/
def IsS (H : Hp) (v : V) (s : Sx) : Prop := ∃ a, v = .ref a ∧ H a = some (.tup (s.map V.int))
def kS : Kd Sx where
  R := IsS
  enc := fun s => .tuple (s.map .int)
  dp := fun K H v s r => by
    obtain ⟨a, rfl, h⟩ := r
    exact .tup (SqT.of h) (dpAll_of kI (pr_ints H s))
  eq := fun b c => by
    simp only [PyData.eqv]
    exact eqvAll_enc kI b c
  lay := fun b => by simp only [PyData.canLay0]; exact canAll kI b
  deep := 1
  depth := fun b => by
    have h := depthAll kI b
    have e : kI.deep = 0 := rfl
    have e2 : kI.enc = PyData.int := rfl
    rw [e, e2] at h
    simp only [PyData.depth]
    omega
  mono := fun e r => by
    obtain ⟨a, rfl, h⟩ := r
    exact ⟨a, rfl, e.d a _ h⟩
/-- a pair, as a tuple of two -/
def kPr {α β : Type} (k : Kd α) (l : Kd β) : Kd (α × β) where
  R := fun H v p => ∃ a x y, v = .ref a ∧ H a = some (.tup [x, y]) ∧ k.R H x p.1 ∧ l.R H y p.2
  enc := fun p => .tuple [k.enc p.1, l.enc p.2]
  dp := fun K H v p r => by
    obtain ⟨a, x, y, rfl, h, r1, r2⟩ := r
    exact .tup (SqT.of h) (.cons (k.dp K H x _ r1) (.cons (l.dp K H y _ r2) .nil))
  eq := fun b c => by
    simp only [PyData.eqv, PyData.eqvAll, Bool.and_eq_true, k.eq, l.eq, and_true]
    constructor
    · rintro ⟨h1, h2⟩
      exact Prod.ext h1 h2
    · rintro rfl
      exact ⟨rfl, rfl⟩
  lay := fun b => by simp [PyData.canLay0, PyData.canLayAll0, k.lay, l.lay]
  deep := k.deep + l.deep + 1
  depth := fun b => by
    have h1 := k.depth b.1
    have h2 := l.depth b.2
    simp only [PyData.depth, PyData.depthAll]
    omega
  mono := fun e r => by
    obtain ⟨a, x, y, rfl, h, r1, r2⟩ := r
    exact ⟨a, x, y, rfl, e.d a _ h, k.mono e r1, l.mono e r2⟩
/-- a tuple of things of one kind -/
def kTp {β : Type} (k : Kd β) : Kd (List β) where
  R := fun H v bs => ∃ a vs, v = .ref a ∧ Rd H a (.tup vs) ∧ Paired (k.R H) vs bs
  enc := fun bs => .tuple (bs.map k.enc)
  dp := fun K H v p r => by
    obtain ⟨a, vs, rfl, h, r1⟩ := r
    exact .tup (SqT.rd h) (dpAll_of k r1)
  eq := fun b c => by
    simp only [PyData.eqv]
    exact eqvAll_enc k b c
  lay := fun b => by simp only [PyData.canLay0]; exact canAll k b
  deep := k.deep + 1
  depth := fun b => by
    have h := depthAll k b
    simp only [PyData.depth]
    omega
  mono := fun e r => by
    obtain ⟨a, vs, rfl, h, r1⟩ := r
    exact ⟨a, vs, rfl, e.rd h, pr_kmono k e r1⟩
abbrev kP : Kd (Sx × Sx) := kPr kS kS
/-- a list of things of one kind -/
def LsD {β : Type} (k : Kd β) (H : Hp) (v : V) (bs : List β) : Prop := ∃ a vs, v = .ref a ∧ H a = some (.lst vs) ∧ Paired (k.R H) vs bs
theorem LsD.dp {β : Type} {k : Kd β} {K : PySem.W.Frag} {H : Hp} {v : V} {bs : List β} (h : LsD k H v bs) : Dp K H v (.list (bs.map k.enc)) := by
  obtain ⟨a, vs, rfl, ha, r⟩ := h
  exact .lst (SqL.of ha) (dpAll_of k r)
theorem LsD.ex {β : Type} {k : Kd β} {H H' : Hp} {v : V} {bs : List β} (e : Ex H H') (h : LsD k H v bs) : LsD k H' v bs := by
  obtain ⟨a, vs, rfl, ha, r⟩ := h
  exact ⟨a, vs, rfl, e a _ ha, pr_kmono k e.t r⟩
theorem IsS.mono {H H' : Hp} {v : V} {s : Sx} (e : TEx H H') (h : IsS H v s) : IsS H' v s := kS.mono e h
theorem IsS.pr {H : Hp} {v : V} {s : Sx} (h : IsS H v s) : (kTp kI).R H v s := by
  obtain ⟨a, rfl, h⟩ := h
  exact ⟨a, _, rfl, .inl h, pr_ints H s⟩

/-! ### ==, !=, in, not in over data -/
section
variable {X : Cx} {β : Type} [DecidableEq β]
def rEqK (k : Kd β) : R2 := fun x y H Q => ∃ b c, k.R H x b ∧ k.R H y c ∧ Q (.bl (decide (b = c))) H
def rNeK (k : Kd β) : R2 := fun x y H Q => ∃ b c, k.R H x b ∧ k.R H y c ∧ Q (.bl (!decide (b = c))) H
theorem eqv_dec (k : Kd β) (b c : β) : PyData.eqv (k.enc b) (k.enc c) = decide (b = c) := by
  by_cases h : b = c
  · rw [decide_eq_true h]
    exact (k.eq b c).mpr h
  · rw [decide_eq_false h]
    cases e : PyData.eqv (k.enc b) (k.enc c) with
    | false => rfl
    | true => exact absurd ((k.eq b c).mp e) h
theorem op_eqK (k : Kd β) (hk : k.deep ≤ 60) (hu : X.A.units + 64 < cLine) : OpR X (compareOp .Eq) (rEqK k) := by
  intro pins s σ H x y v u Q I rx ry h
  obtain ⟨b, c, hb, hc, q⟩ := h
  refine op_eqD hu pins s σ H x y v u Q I rx ry ⟨_, _, k.dp _ _ _ _ hb, k.dp _ _ _ _ hc, shaped_enc k b hk, shaped_enc k c hk, ?_⟩
  rw [eqv_dec]
  exact q
theorem op_neK (k : Kd β) (hk : k.deep ≤ 60) (hu : X.A.units + 64 < cLine) : OpR X (compareOp .NotEq) (rNeK k) := by
  intro pins s σ H x y v u Q I rx ry h
  obtain ⟨b, c, hb, hc, q⟩ := h
  refine op_neD hu pins s σ H x y v u Q I rx ry ⟨_, _, k.dp _ _ _ _ hb, k.dp _ _ _ _ hc, shaped_enc k b hk, shaped_enc k c hk, ?_⟩
  rw [eqv_dec]
  exact q
theorem eqvL_dec (k : Kd β) (b c : List β) : PyData.eqv (.list (b.map k.enc)) (.list (c.map k.enc)) = decide (b = c) := by
  simp only [PyData.eqv]
  by_cases h : b = c
  · rw [decide_eq_true h]
    exact (eqvAll_enc k b c).mpr h
  · rw [decide_eq_false h]
    cases e : PyData.eqvAll (b.map k.enc) (c.map k.enc) with
    | false => rfl
    | true => exact absurd ((eqvAll_enc k b c).mp e) h
def rEqL (k : Kd β) : R2 := fun x y H Q => ∃ b c, LsD k H x b ∧ LsD k H y c ∧ Q (.bl (decide (b = c))) H
def rNeL (k : Kd β) : R2 := fun x y H Q => ∃ b c, LsD k H x b ∧ LsD k H y c ∧ Q (.bl (!decide (b = c))) H
theorem op_eqL (k : Kd β) (hk : k.deep ≤ 60) (hu : X.A.units + 64 < cLine) : OpR X (compareOp .Eq) (rEqL k) := by
  intro pins s σ H x y v u Q I rx ry h
  obtain ⟨b, c, hb, hc, q⟩ := h
  refine op_eqD hu pins s σ H x y v u Q I rx ry ⟨_, _, hb.dp, hc.dp, shaped_lst k b hk, shaped_lst k c hk, ?_⟩
  rw [eqvL_dec]
  exact q
theorem op_neL (k : Kd β) (hk : k.deep ≤ 60) (hu : X.A.units + 64 < cLine) : OpR X (compareOp .NotEq) (rNeL k) := by
  intro pins s σ H x y v u Q I rx ry h
  obtain ⟨b, c, hb, hc, q⟩ := h
  refine op_neD hu pins s σ H x y v u Q I rx ry ⟨_, _, hb.dp, hc.dp, shaped_lst k b hk, shaped_lst k c hk, ?_⟩
  rw [eqvL_dec]
  exact q
theorem any_dec (k : Kd β) (b : β) : ∀ bs : List β, ((bs.map k.enc).any fun z => PyData.eqv z (k.enc b)) = decide (b ∈ bs)
  | [] => by simp
  | c :: bs => by
    have ih := any_dec k b bs
    rw [List.map_cons, List.any_cons, ih, eqv_dec]
    by_cases h : b = c
    · subst h; simp
    · have h' : ¬ c = b := fun q => h q.symm
      by_cases hb : b ∈ bs <;> simp [h, h', hb]
def rInL (k : Kd β) : R2 := fun x y H Q => ∃ b bs, k.R H x b ∧ LsD k H y bs ∧ Q (.bl (decide (b ∈ bs))) H
def rNinL (k : Kd β) : R2 := fun x y H Q => ∃ b bs, k.R H x b ∧ LsD k H y bs ∧ Q (.bl (!decide (b ∈ bs))) H
theorem op_inL (k : Kd β) (hk : k.deep ≤ 60) (hu : X.A.units + 65 < cLine) : OpR X (compareOp .In) (rInL k) := by
  intro pins s σ H x y v u Q I rx ry h
  obtain ⟨b, bs, hb, hc, q⟩ := h
  refine op_inD hu pins s σ H x y v u Q I rx ry ⟨_, _, k.dp _ _ _ _ hb, hc.dp, shaped_enc k b hk, shaped_lst k bs hk, ?_⟩
  rw [any_dec]
  exact q
theorem op_ninL (k : Kd β) (hk : k.deep ≤ 60) (hu : X.A.units + 65 < cLine) : OpR X (compareOp .NotIn) (rNinL k) := by
  intro pins s σ H x y v u Q I rx ry h
  obtain ⟨b, bs, hb, hc, q⟩ := h
  refine op_notInD hu pins s σ H x y v u Q I rx ry ⟨_, _, k.dp _ _ _ _ hb, hc.dp, shaped_enc k b hk, shaped_lst k bs hk, ?_⟩
  rw [any_dec]
  exact q
def rInT (k : Kd β) : R2 := fun x y H Q => ∃ b bs, k.R H x b ∧ (kTp k).R H y bs ∧ Q (.bl (decide (b ∈ bs))) H
def rNinT (k : Kd β) : R2 := fun x y H Q => ∃ b bs, k.R H x b ∧ (kTp k).R H y bs ∧ Q (.bl (!decide (b ∈ bs))) H
theorem op_inT (k : Kd β) (hk : k.deep ≤ 60) (hu : X.A.units + 65 < cLine) : OpR X (compareOp .In) (rInT k) := by
  intro pins s σ H x y v u Q I rx ry h
  obtain ⟨b, bs, hb, hc, q⟩ := h
  obtain ⟨as, r1⟩ := Dp.reads I _ x v (k.dp _ _ _ _ hb) rx
  obtain ⟨cs, r2⟩ := Dp.reads I _ y u ((kTp k).dp _ _ _ _ hc) ry
  refine SeqAt.in_tuple_reads r2 r1 (canAll k bs) (k.lay b) (PyProof.Rows.room_in_shaped (shaped_enc k b hk) hu) ⟨.bl _, H, I, rfl, ?_⟩
  rw [any_dec]
  exact q
theorem op_ninT (k : Kd β) (hk : k.deep ≤ 60) (hu : X.A.units + 65 < cLine) : OpR X (compareOp .NotIn) (rNinT k) := by
  intro pins s σ H x y v u Q I rx ry h
  obtain ⟨b, bs, hb, hc, q⟩ := h
  obtain ⟨as, r1⟩ := Dp.reads I _ x v (k.dp _ _ _ _ hb) rx
  obtain ⟨cs, r2⟩ := Dp.reads I _ y u ((kTp k).dp _ _ _ _ hc) ry
  refine SeqAt.notIn_tuple_reads r2 r1 (canAll k bs) (k.lay b) (PyProof.Rows.room_in_shaped (shaped_enc k b hk) hu) ⟨.bl _, H, I, rfl, ?_⟩
  rw [any_dec]
  exact q
end
end Sh
set_option Elab.async false
set_option linter.all false
set_option maxRecDepth 100000
set_option maxHeartbeats 1000000
/-! Rules: tuples put together and cut, sorted rows of data, items of lists changed in place, sets of numbers. -/
namespace Sh
open PySem L2

/-- v is a tuple of the values vs (it may be known to the object) -/
def IsT (H : Hp) (v : V) (vs : List V) : Prop := ∃ a, v = .ref a ∧ Rd H a (.tup vs)
/-- .. a tracked one -/
def IsD (H : Hp) (v : V) (vs : List V) : Prop := ∃ a, v = .ref a ∧ H a = some (.tup vs)
theorem IsT.mono {H H' : Hp} {v : V} {vs : List V} (e : TEx H H') (h : IsT H v vs) : IsT H' v vs := by
  obtain ⟨a, rfl, h⟩ := h
  exact ⟨a, rfl, e.rd h⟩
theorem IsD.mono {H H' : Hp} {v : V} {vs : List V} (e : TEx H H') (h : IsD H v vs) : IsD H' v vs := by
  obtain ⟨a, rfl, h⟩ := h
  exact ⟨a, rfl, e.d a _ h⟩
theorem IsD.t {H : Hp} {v : V} {vs : List V} (h : IsD H v vs) : IsT H v vs := by
  obtain ⟨a, rfl, h⟩ := h
  exact ⟨a, rfl, .inl h⟩
theorem IsS.d {H : Hp} {v : V} {s : Sx} (h : IsS H v s) : IsD H v (s.map V.int) := h
theorem IsD.tp {β : Type} {k : Kd β} {H : Hp} {v : V} {vs : List V} {bs : List β} (h : IsD H v vs) (r : Paired (k.R H) vs bs) : (kTp k).R H v bs := by
  obtain ⟨a, rfl, h⟩ := h
  exact ⟨a, vs, rfl, .inl h, r⟩
theorem sz5 {n : Nat} (h : n ≤ 1000000) : n ≤ sizeLine := Nat.le_trans h (by decide)
theorem sz5l {n : Nat} (h : n ≤ 1000000) : n < sizeLine := Nat.lt_of_le_of_lt h (by decide)

/-- t + u -/
def rCatG : R2 := fun x y H Q => ∃ xs ys, IsT H x xs ∧ IsT H y ys ∧ xs.length + ys.length ≤ 1000000 ∧ ∀ v H', Ex H H' → IsT H' v (xs ++ ys) → Q v H'
def rCatD : R2 := fun x y H Q => ∃ xs ys, IsD H x xs ∧ IsD H y ys ∧ xs.length + ys.length ≤ 1000000 ∧ ∀ v H', Ex H H' → IsD H' v (xs ++ ys) → Q v H'
/-- t[lo:hi] -/
def rSlG : V → Option Int → Option Int → Hp → VK → Prop := fun x lo hi H Q => ∃ xs, IsT H x xs ∧ ∀ v H', Ex H H' → IsT H' v (cutV xs lo hi) → Q v H'
def rSlD : V → Option Int → Option Int → Hp → VK → Prop := fun x lo hi H Q => ∃ xs, IsD H x xs ∧ ∀ v H', Ex H H' → IsD H' v (cutV xs lo hi) → Q v H'
section
variable {X : Cx}
theorem op_catG : OpR X (binaryOp .Add) rCatG := by
  intro pins s σ H x y v u Q I rx ry h
  obtain ⟨xs, ys, ⟨a, rfl, ha⟩, ⟨b, rfl, hb⟩, hz, q⟩ := h
  refine op_catA pins s σ H _ _ v u Q I rx ry ⟨a, b, xs, ys, rfl, rfl, SqT.rd ha, SqT.rd hb, sz5 hz, fun e => ?_, fun _ e => ?_, fun _ _ p hp => ?_⟩
  · subst e
    exact q _ _ (Ex.refl H) ⟨b, rfl, hb⟩
  · subst e
    exact q _ _ (Ex.refl H) ⟨a, rfl, by rw [List.append_nil]; exact ha⟩
  · exact q _ _ (Ex.new hp) ⟨p, rfl, .inl upd_same⟩
theorem op_catD : OpR X (binaryOp .Add) rCatD := by
  intro pins s σ H x y v u Q I rx ry h
  obtain ⟨xs, ys, ⟨a, rfl, ha⟩, ⟨b, rfl, hb⟩, hz, q⟩ := h
  refine op_catA pins s σ H _ _ v u Q I rx ry ⟨a, b, xs, ys, rfl, rfl, SqT.of ha, SqT.of hb, sz5 hz, fun e => ?_, fun _ e => ?_, fun _ _ p hp => ?_⟩
  · subst e
    exact q _ _ (Ex.refl H) ⟨b, rfl, hb⟩
  · subst e
    exact q _ _ (Ex.refl H) ⟨a, rfl, by rw [List.append_nil]; exact ha⟩
  · exact q _ _ (Ex.new hp) ⟨p, rfl, upd_same⟩
theorem cut_whole {xs : List V} {lo hi : Option Int} (h : HT.sIx xs.length 0 lo = 0 ∧ HT.sIx xs.length xs.length hi = xs.length) : cutV xs lo hi = xs := by
  unfold cutV
  rw [h.1, h.2]
  simp
theorem sl_G : SlR X rSlG := by
  intro pins s σ H x v vl vu lo hi sl Q I rx hs pl pu h
  obtain ⟨xs, ⟨a, rfl, ha⟩, q⟩ := h
  refine sl_tupA pins s σ H _ v vl vu lo hi sl Q I rx hs pl pu ⟨a, xs, rfl, SqT.rd ha, fun e => ?_, fun _ p hp => ?_⟩
  · exact q _ _ (Ex.refl H) ⟨a, rfl, by rw [cut_whole e]; exact ha⟩
  · exact q _ _ (Ex.new hp) ⟨p, rfl, .inl upd_same⟩
theorem sl_D : SlR X rSlD := by
  intro pins s σ H x v vl vu lo hi sl Q I rx hs pl pu h
  obtain ⟨xs, ⟨a, rfl, ha⟩, q⟩ := h
  refine sl_tupA pins s σ H _ v vl vu lo hi sl Q I rx hs pl pu ⟨a, xs, rfl, SqT.of ha, fun e => ?_, fun _ p hp => ?_⟩
  · exact q _ _ (Ex.refl H) ⟨a, rfl, by rw [cut_whole e]; exact ha⟩
  · exact q _ _ (Ex.new hp) ⟨p, rfl, upd_same⟩
theorem cut_pre (xs : List V) (n : Nat) (h : n ≤ xs.length) : cutV xs none (some (n : Int)) = xs.take n := by
  unfold cutV
  rw [HT.sIx_none, HT.sIx_nat, Nat.min_eq_left h]
  simp
theorem cut_post (xs : List V) (n : Nat) (h : n ≤ xs.length) : cutV xs (some (n : Int)) none = xs.drop n := by
  unfold cutV
  rw [HT.sIx_none, HT.sIx_nat, Nat.min_eq_left h]
  exact List.take_of_length_le (by rw [List.length_drop]; exact Nat.le_refl _)
theorem cut_butlast (xs : List V) (h : 1 ≤ xs.length) : cutV xs none (some (-1)) = xs.dropLast := by
  unfold cutV
  have e : HT.sIx xs.length xs.length (some (-1)) = xs.length - 1 := by
    show (if (-1 : Int) < 0 then ((-1 : Int) + (xs.length : Int)).toNat else min ((-1 : Int)).toNat xs.length) = xs.length - 1
    rw [if_pos (by decide)]
    omega
  rw [e, HT.sIx_none, List.dropLast_eq_take]
  simp
theorem map_eraseI {α β : Type} (f : α → β) : ∀ (l : List α) (n : Nat), (l.map f).eraseIdx n = (l.eraseIdx n).map f
  | [], _ => by simp
  | _ :: _, 0 => by simp
  | a :: l, n + 1 => by simp [map_eraseI f l n]
theorem erase_cut {α : Type} (l : List α) (n : Nat) : l.take n ++ l.drop (n + 1) = l.eraseIdx n := (List.eraseIdx_eq_take_drop_succ l n).symm

/-- big[:at] + big[at + 1:] -/
abbrev tFace (i j : Nat) : TE := tOp rCatD (tSl rSlD (tVar i) tNoPart (tPart (tVar j))) (tSl rSlD (tVar i) (tPart (tOp (rI0 fun i j => .int (i + j)) (tVar j) (tC (.int 1)))) tNoPart)
theorem face_of {σ : St} {H : Hp} {Q : VK} {i j n : Nat} {v : V} {s : Sx} (h1 : σ[i]? = some (some v)) (h2 : σ[j]? = some (some (.int (n : Int)))) (hs : IsS H v s) (hn : n < s.length) (hz : s.length ≤ 1000)
    (k : ∀ w H', Ex H H' → IsS H' w (s.eraseIdx n) → Q w H') : tFace i j σ H Q := by
  obtain ⟨a, rfl, ha⟩ := hs
  have hl : (s.map V.int).length = s.length := List.length_map _
  refine ⟨_, h1, _, h2, _, rfl, _, ⟨a, rfl, ha⟩, fun v1 H1 e1 q1 => ?_⟩
  rw [cut_pre _ _ (by omega)] at q1
  refine ⟨_, h1, _, h2, _, _, rfl, rfl, _, rfl, _, ⟨a, rfl, e1 a _ ha⟩, fun v2 H2 e2 q2 => ?_⟩
  have q2' : IsD H2 v2 ((s.map V.int).drop (n + 1)) := by
    rw [← cut_post _ (n + 1) (by omega)]
    exact q2
  refine ⟨_, _, q1.mono e2.t, q2', ?_, fun v3 H3 e3 q3 => ?_⟩
  · rw [List.length_take, List.length_drop]
    omega
  · refine k _ _ ((e1.trans e2).trans e3) ?_
    obtain ⟨b, rfl, hb⟩ := q3
    refine ⟨b, rfl, ?_⟩
    rw [hb, erase_cut, map_eraseI]
end

/-! ### sorted over data -/
def rSortK {β : Type} (k : Kd β) : List V → Hp → VK → Prop := fun vs H Q => ∃ (v : V) (bs : List β), vs = [v] ∧ LsD k H v bs ∧ k.deep ≤ 60 ∧
  PySem.W.AllAlike (bs.map k.enc) ∧ PySem.W.Sortable (bs.map k.enc) ∧ bs.length ≤ 1000000 ∧
  ∀ (w : V) (H' : Hp), Ex H H' → (∀ a, w = .ref a → H a = none) → LsD k H' w (bs.mergeSort (PySem.W.dataLe false k.enc)) → Q w H'
theorem each_of_pr {β : Type} {k : Kd β} {H : Hp} : ∀ {vs : List V} {bs : List β} {us : List Value}, Paired (k.R H) vs bs → Vals vs us → PySem.W.EachIs (fun u b => ∃ x, RelV x u ∧ k.R H x b) us bs
  | _, _, _, .nil, .nil => .nil
  | _, _, _, .cons r t, .cons q u => .cons ⟨_, q, r⟩ (each_of_pr t u)
theorem pr_of_each {β : Type} {k : Kd β} {H : Hp} : ∀ {bs : List β} {us : List Value}, PySem.W.EachIs (fun u b => ∃ x, RelV x u ∧ k.R H x b) us bs → ∃ vs, Vals vs us ∧ Paired (k.R H) vs bs
  | _, _, .nil => ⟨[], .nil, .nil⟩
  | _, _, .cons ⟨x, q, r⟩ t => by
    obtain ⟨vs, h1, h2⟩ := pr_of_each t
    exact ⟨x :: vs, .cons q h1, .cons r h2⟩
section
variable {X : Cx}
theorem cr_sortK {β : Type} (k : Kd β) (hu : X.A.units + 64 < cLine) : CallR X (.builtin "sorted") (rSortK k) := by
  intro pins s σ H vs us Q I r h
  obtain ⟨v, bs, rfl, ⟨a, xs, rfl, ha, hp⟩, hd, hal, hso, hz, q⟩ := h
  obtain ⟨its, rv, hl, hsz⟩ := I.list (SqL.of ha)
  rw [Vals.ref1 r]
  have each := each_of_pr hp rv
  have reads : PySem.W.EachIs (fun u b => ∃ as, Reads s.heap u (k.enc b) as) its bs := each.mono fun u b ⟨x, q1, q2⟩ => Dp.reads I _ x u (k.dp X.K H x b q2) q1
  have hlen := Paired.length hp
  refine PySem.W.sorted_data hl.isList each reads hal hso (sz5 hz) (fun b _ => ?_) fun out ho hout => ?_
  · have := k.depth b
    omega
  obtain ⟨ys, hy1, hy2⟩ := pr_of_each hout
  obtain ⟨ep, he'⟩ := PyProof.Rows.sortedAll_at s.heap its out.toArray
  have hn : H (s.heap.objs.size + 1) = none := I.hok.fresh (Nat.le_succ _)
  have hyl : ys.length ≤ sizeLine := by
    rw [hy1.length, ho]
    exact sz5 hz
  refine ⟨.ref _, upd H (s.heap.objs.size + 1) (.lst ys), I.laid (t' := s.toks) (fun _ _ => PyProof.Rows.sortedAll_old) (Nat.le_succ _) ⟨hyl, out, ep, hy1, he'⟩, rfl, ?_⟩
  refine q _ _ (Ex.new hn) (fun b e => ?_) ⟨_, ys, rfl, upd_same, pr_kmono k (Ex.new hn).t hy2⟩
  cases e
  exact hn

/-! ### xs[i] op= e for a list -/
def rGetL : V → V → Hp → VK → Prop := fun o i H Q => ∃ a xs n v, o = .ref a ∧ i = .int ((n : Nat) : Int) ∧ H a = some (.lst xs) ∧ xs[n]? = some v ∧ Q v H
theorem get_list : PGet X rGetL := by
  intro pins s σ H o i ov iv Q I ro ri h
  obtain ⟨a, xs, n, v, rfl, rfl, ha, hv, q⟩ := h
  cases ro
  obtain ⟨t, rfl⟩ := ri
  obtain ⟨its, rv, hl, hsz⟩ := I.list (SqL.of ha)
  obtain ⟨u, hu, ru⟩ := rv.get hv
  have hn : n < xs.length := (List.getElem?_eq_some_iff.mp hv).1
  rw [sizeLine_eq] at hsz
  refine wpAny_getItem_list hl.isList (by omega) (by omega) (x := u) ?_ ⟨v, H, I, ru, q⟩
  rw [Int.toNat_natCast]
  simpa using hu
def rPutL : TSet := fun o i v H Q => ∃ a xs n, o = .ref a ∧ i = .int ((n : Nat) : Int) ∧ H a = some (.lst xs) ∧ n < xs.length ∧ Q (upd H a (.lst (xs.set n v)))
theorem ixN_of {n j : Nat} (hj : j < n) : ixN n (j : Int) = some j := by
  unfold ixN
  rw [if_pos (by omega), if_pos (by omega)]
  simp
theorem put_list : PSet X rPutL := by
  intro pins s σ H o i v ov iv u Q I ro ri rv h
  obtain ⟨a, xs, n, rfl, rfl, ha, hn, q⟩ := h
  exact set_list pins s σ H _ _ v ov iv u Q I ro ri rv ⟨a, xs, _, n, rfl, rfl, ha, ixN_of hn, q⟩

/-! ### set(t), a tuple of numbers -/
def rSetT (w : World) : List V → Hp → VK → Prop := fun vs H Q => ∃ (v : V) (ns : Sx), vs = [v] ∧ IsS H v ns ∧ ns.length ≤ 40 ∧
  ∀ (p : Addr) (c : Nat), H p = none → c ≤ ns.length → Q (.ref p) (upd H p (SetO w p (fun j => decide (j ∈ ns)) c))
theorem few40 {n : Nat} (h : n ≤ 40) : n + 1 < scanBound := Nat.lt_of_le_of_lt (Nat.succ_le_succ h) (by decide)
theorem cr_setT (hc : X.calm = true) : CallR X (.type "set") (rSetT X.w) := by
  intro pins s σ H vs us Q I r h
  obtain ⟨v, ns, rfl, ⟨a, rfl, ha⟩, hz, q⟩ := h
  obtain ⟨its, rv, ht, hsz⟩ := I.tuple (SqT.of ha)
  rw [Vals.ref1 r]
  refine call_set_tupI ns (I.ok.hd hc) (show s.heap.IsTuple a its.toArray from ht) (by simpa using rv.ints) (few40 hz) fun h' tk c R hle k => ?_
  have hn : H s.heap.objs.size = none := I.hok.fresh (Nat.le_refl _)
  exact ⟨.ref s.heap.objs.size, upd H s.heap.objs.size (SetO X.w s.heap.objs.size (fun j => decide (j ∈ ns)) c), I.laid (t' := tk) k (Nat.le_refl _) (setO_new R), rfl, q _ c hn hle⟩
end
end Sh
set_option Elab.async false
set_option linter.all false
set_option maxRecDepth 100000
set_option maxHeartbeats 1000000
/-! Rules: dicts whose keys are simplices. -/
namespace Sh
open PySem L2

/-! ### keys -/
def kk (s : Sx) : List L2.Key := s.map Sum.inl
theorem kk_V (s : Sx) : (kk s).map kV = s.map V.int := by
  unfold kk
  rw [List.map_map]
  rfl
theorem kk_inj : ∀ {s t : Sx}, kk s = kk t → s = t
  | [], [], _ => rfl
  | [], _ :: _, h => by cases h
  | _ :: _, [], h => by cases h
  | a :: s, b :: t, h => by
    have h' : (Sum.inl a : L2.Key) :: kk s = Sum.inl b :: kk t := h
    injection h' with h1 h2
    injection h1 with h1
    rw [h1, kk_inj h2]
theorem IsS.key {H : Hp} {v : V} {s : Sx} (h : IsS H v s) : ∃ b, v = .ref b ∧ H b = some (.tup ((kk s).map kV)) := by
  obtain ⟨a, rfl, h⟩ := h
  exact ⟨a, rfl, by rw [kk_V]; exact h⟩
theorem IsS.of_key {H : Hp} {b : Addr} {s : Sx} (h : H b = some (.tup ((kk s).map kV))) : IsS H (.ref b) s := ⟨b, rfl, by rw [h, kk_V]⟩
abbrev SV := List (Sx × V)
/-- the pairs as the layer tells them -/
def km (kvs : SV) : List (List L2.Key × V) := kvs.map fun p => (kk p.1, p.2)
theorem km_len (kvs : SV) : (km kvs).length = kvs.length := List.length_map _
theorem km_get (kvs : SV) (i : Nat) : (km kvs)[i]? = (kvs[i]?).map fun p => (kk p.1, p.2) := List.getElem?_map
theorem valV_km (s : Sx) : ∀ kvs : SV, valV (km kvs) (kk s) = valV kvs s
  | [] => rfl
  | p :: kvs => by
    have ih := valV_km s kvs
    by_cases e : p.1 = s
    · rw [valV_pos e]
      exact valV_pos (p := (kk p.1, p.2)) (by rw [e])
    · rw [valV_neg e, ← ih]
      exact valV_neg (p := (kk p.1, p.2)) fun q => e (kk_inj q)
theorem putK_km (kvs : SV) (s : Sx) (v : V) : putK (km kvs) (kk s) v = km (putK kvs s v) := by
  have e : ∀ p : Sx × V, decide ((kk p.1) = kk s) = decide (p.1 = s) := fun p => by
    by_cases h : p.1 = s
    · rw [decide_eq_true h, decide_eq_true (by rw [h])]
    · rw [decide_eq_false h, decide_eq_false fun q => h (kk_inj q)]
  have a : ((km kvs).any fun kv => decide (kv.1 = kk s)) = kvs.any fun kv => decide (kv.1 = s) := by
    rw [valV_any, valV_any, valV_km]
  unfold putK
  rw [a]
  split
  · unfold km
    rw [List.map_map, List.map_map]
    refine List.map_congr_left fun p _ => ?_
    have := e p
    by_cases h : p.1 = s
    · simp [h]
    · have h' : ¬ kk p.1 = kk s := fun q => h (kk_inj q)
      simp [h, h']
  · unfold km
    rw [List.map_append]
    rfl
theorem dropK_km (kvs : SV) (s : Sx) : dropK (km kvs) (kk s) = km (dropK kvs s) := by
  unfold dropK km
  rw [List.filter_map]
  congr 1
  refine List.filter_congr fun p _ => ?_
  by_cases h : p.1 = s
  · simp [h]
  · have h' : ¬ kk p.1 = kk s := fun q => h (kk_inj q)
    simp [h, h']
theorem putK_length (kvs : SV) (s : Sx) (v : V) : (putK kvs s v).length ≤ kvs.length + 1 := length_putK kvs s v

/-- at d stands a dict of these simplices and values -/
abbrev DtAt (H : Hp) (d : Addr) (kvs : SV) : Prop := H d = some (.dT (km kvs))
theorem get_of {H : Hp} {d : Addr} {kvs : SV} {y : V} {s : Sx} (h : Rd H d (.dT (km kvs))) (hs : IsS H y s) : DGet H d y (valV kvs s) := by
  obtain ⟨b, rfl, hb⟩ := hs.key
  exact .inr ⟨km kvs, kk s, b, h, rfl, hb, (valV_km s kvs).symm⟩
theorem put_of {H : Hp} {d : Addr} {kvs : SV} {y v : V} {s : Sx} (h : DtAt H d kvs) (hs : IsS H y s) (hl : kvs.length ≤ 1000000) : DPut H d y v (upd H d (.dT (km (putK kvs s v)))) := by
  obtain ⟨b, rfl, hb⟩ := hs.key
  have q := DPut.t (v := v) h hb (by rw [km_len]; exact sz5l hl)
  rw [putK_km] at q
  exact q

/-! ### hashes that differ -/
def subs : List Int → List Sx
  | [] => [[]]
  | x :: xs => subs xs ++ (subs xs).map (x :: ·)
def all7 : List Sx := subs [0, 1, 2, 3, 4, 5, 6]
theorem mem_subs : ∀ {l : List Int} {s : Sx}, s.Sublist l → s ∈ subs l
  | [], s, h => by
    cases h
    exact List.mem_singleton.mpr rfl
  | x :: xs, s, h => by
    cases h with
    | cons _ h => exact List.mem_append.mpr (.inl (mem_subs h))
    | cons_cons _ h => exact List.mem_append.mpr (.inr (List.mem_map.mpr ⟨_, mem_subs h, rfl⟩))
def hashOf (s : Sx) : Int := reduceHash (Builtin.Tuple.tupleHashOf (s.map hashInt))
theorem hash_all : (all7.map hashOf).Nodup := by decide +kernel
theorem hash_eq (P : Program) (w : World) (s : Sx) : (tupleKind (mixKind P w)).hash (kk s) = hashOf s := by
  show reduceHash (Builtin.Tuple.tupleHashOf ((kk s).map (keyH w))) = _
  unfold kk hashOf
  rw [List.map_map]
  rfl
theorem inj_of_nodup {α β : Type} {f : α → β} : ∀ {l : List α}, (l.map f).Nodup → ∀ {x y : α}, x ∈ l → y ∈ l → f x = f y → x = y
  | [], _, _, _, h, _, _ => nomatch h
  | a :: l, hn, x, y, hx, hy, e => by
    rw [List.map_cons, List.nodup_cons] at hn
    rcases List.mem_cons.mp hx with rfl | hx'
    · rcases List.mem_cons.mp hy with rfl | hy'
      · rfl
      · exact absurd (List.mem_map.mpr ⟨y, hy', e.symm⟩) hn.1
    · rcases List.mem_cons.mp hy with rfl | hy'
      · exact absurd (List.mem_map.mpr ⟨x, hx', e⟩) hn.1
      · exact inj_of_nodup hn.2 hx' hy' e
theorem nodup_map_on {α β : Type} {f : α → β} : ∀ {l : List α}, l.Nodup → (∀ x ∈ l, ∀ y ∈ l, f x = f y → x = y) → (l.map f).Nodup
  | [], _, _ => List.nodup_nil
  | a :: l, hn, h => by
    rw [List.nodup_cons] at hn
    rw [List.map_cons, List.nodup_cons]
    refine ⟨fun q => ?_, nodup_map_on hn.2 fun x hx y hy => h x (List.mem_cons_of_mem _ hx) y (List.mem_cons_of_mem _ hy)⟩
    obtain ⟨y, hy, e⟩ := List.mem_map.mp q
    have := h y (List.mem_cons_of_mem _ hy) a List.mem_cons_self e
    exact hn.1 (by rw [← this]; exact hy)
theorem hash_nodup {F : List Sx} (hn : F.Nodup) (h : ∀ s ∈ F, s ∈ all7) : (F.map hashOf).Nodup := nodup_map_on hn fun x hx y hy e => inj_of_nodup hash_all (h x hx) (h y hy) e

/-! ### the operations -/
section
variable {X : Cx}
theorem keys_kt {H : Hp} {kvs : SV} {xs : List (List L2.Key × Addr × Value)} (r : KT H (km kvs) xs) : xs.map (·.1) = kvs.map fun p => kk p.1 := by
  have : ∀ {l : List (List L2.Key × V)} {m : List (List L2.Key × Addr × Value)}, KT H l m → m.map (·.1) = l.map (·.1) := by
    intro l m q
    induction q with
    | nil => rfl
    | cons h t ih => rw [List.map_cons, List.map_cons, ih, h.1]
  rw [this r]
  unfold km
  rw [List.map_map]
  rfl
theorem hash_kt {P : Program} {w : World} {H : Hp} {kvs : SV} {xs : List (List L2.Key × Addr × Value)} (r : KT H (km kvs) xs) (hn : (kvs.map (·.1)).Nodup) (h7 : ∀ p ∈ kvs, p.1 ∈ all7) :
    (xs.map fun x => (tupleKind (mixKind P w)).hash x.1).Nodup := by
  have e : (xs.map fun x => (tupleKind (mixKind P w)).hash x.1) = (kvs.map (·.1)).map hashOf := by
    have e1 : (xs.map fun x => (tupleKind (mixKind P w)).hash x.1) = (xs.map (·.1)).map (tupleKind (mixKind P w)).hash := by
      rw [List.map_map]
      rfl
    rw [e1, keys_kt r, List.map_map, List.map_map]
    refine List.map_congr_left fun p _ => ?_
    exact hash_eq P w p.1
  rw [e]
  refine hash_nodup hn fun s hs => ?_
  obtain ⟨p, hp, rfl⟩ := List.mem_map.mp hs
  exact h7 p hp
theorem kt_tuple {P : Program} {w : World} {h : Heap} {d : Addr} {xs : List (List L2.Key × Addr × Value)} {s : Shared} (hs : s.heap = h) (hx : h.DictOfH (tupleKind (mixKind P w)) d xs) : ∀ x ∈ xs, s.TypeIs (.ref x.2.1) "tuple" := by
  obtain ⟨_, _, _, _, _, _, _, his, _⟩ := hx
  intro x hm
  obtain ⟨o, its, n, h1, h2, _⟩ := his x hm
  exact ⟨o, by rw [hs]; exact h1, h2⟩
/-- dict(d), a copy -/
def rCopyT : List V → Hp → VK → Prop := fun xs H Q => ∃ (d : Addr) (kvs : SV), xs = [.ref d] ∧ Rd H d (.dT (km kvs)) ∧ (kvs.map (·.1)).Nodup ∧ (∀ p ∈ kvs, p.1 ∈ all7) ∧ ∀ p, H p = none → Q (.ref p) (upd H p (.dT (km kvs)))
theorem stored_all {H : Hp} {h : Heap} {d : Addr} {P : Program} {w : World} {xs : List (List L2.Key × Addr × Value)} (hn : (xs.map (·.1)).Nodup) : storedAllH [] xs = xs := by
  have gen : ∀ (ys acc : List (List L2.Key × Addr × Value)), ((acc ++ ys).map (·.1)).Nodup → storedAllH acc ys = acc ++ ys := by
    intro ys
    induction ys with
    | nil =>
      intro acc _
      rw [List.append_nil]
      rfl
    | cons y ys ih =>
      intro acc hq
      have e : acc ++ y :: ys = (acc ++ [y]) ++ ys := by simp
      show storedAllH (storedH acc y.1 y.2.1 y.2.2) ys = _
      have hno : atKey acc y.1 = none := by
        unfold atKey
        rw [Option.map_eq_none_iff, List.find?_eq_none]
        intro z hz q
        have q' : z.1 = y.1 := of_decide_eq_true q
        rw [List.map_append, List.nodup_append] at hq
        exact hq.2.2 z.1 (List.mem_map.mpr ⟨z, hz, rfl⟩) y.1 (List.mem_map.mpr ⟨y, List.mem_cons_self, rfl⟩) q'
      rw [storedH_new hno, ih (acc ++ [y]) (by rw [← e]; exact hq), e]
  exact (gen xs [] (by simpa using hn)).trans (List.nil_append xs)
theorem call_copyT (hu : X.A.units + 64 < cLine) : CallR X (.type "dict") rCopyT := by
  intro pins s σ H vs us Q I r h
  obtain ⟨d, kvs, rfl, hd, hn, h7, q⟩ := h
  obtain ⟨u, rfl, rx⟩ := vals1 r
  obtain rfl : u = .ref d := rx
  obtain ⟨z, hsm, xs, rel, dd⟩ := dt_rd I.hok hd
  have hxn : (xs.map (·.1)).Nodup := let ⟨_, _, _, _, _, _, _, _, e⟩ := dd; e
  have hxl : xs.length ≤ sizeLine := by rw [← Paired.length rel]; exact z
  refine callType_codes (Q₁ := fun ob s1 => ob = .ref s.heap.objs.size ∧ s1 = { s with heap := s.heap.push { cls := .type "dict", data := .dict #[] } }) F.kt_called_dict (F.kt_typeCall_dict_1 _) F.entry_dict_init (kt_code_dict_new _ ⟨rfl, rfl⟩) ?_
  rintro ob s1 ⟨rfl, rfl⟩
  have new0 : (s.heap.push { cls := .type "dict", data := .dict #[] }).DictOfH (tupleKind (mixKind X.prog X.w)) s.heap.objs.size [] := Heap.DictOfH.new s.heap
  have dd' : (s.heap.push { cls := .type "dict", data := .dict #[] }).DictOfH (tupleKind (mixKind X.prog X.w)) d xs := by
    obtain ⟨o, es, ep, g1, g2, g3, g4, g5, g6⟩ := dd
    refine ⟨o, es, ep, Heap.get?_push_of_some _ g1, g2, g3, g4, fun x hx => ?_, g6⟩
    obtain ⟨o2, its, n, k1, k2⟩ := g5 x hx
    exact ⟨o2, its, n, Heap.get?_push_of_some _ k1, k2⟩
  have hne : s.heap.objs.size ≠ d := by
    obtain ⟨_, _, _, hg, _⟩ := dd
    exact fun e => absurd (Heap.lt_size hg) (by rw [e]; exact Nat.lt_irrefl _)
  have hT : Shared.TypeIs { s with heap := s.heap.push { cls := .type "dict", data := .dict #[] } } (.ref s.heap.objs.size) "dict" := ⟨_, Heap.get?_push_size _ rfl, rfl⟩
  refine ⟨hT, F.args_dict_init_2 _ _, ?_⟩
  unfold Builtin.«dict.__init__»
  refine wpAny_bind ?_
  unfold Builtin.Dict.selfAndRest
  refine wpAny_bind (wpAny_notOrdered_dict hT ?_)
  refine wpAny_pure ?_
  refine updateFrom_dictH (knd := tupleKind (mixKind X.prog X.w)) (s := { s with heap := s.heap.push { cls := .type "dict", data := .dict #[] } }) .none ?_ hne hsm new0 dd' (.inr ⟨kt_tuple rfl dd', hash_kt rel hn h7⟩) (by simpa using hxl) fun h' hm _ hs => ?_
  · show (X.A.in1.in1).units < cLine
    have : X.A.units + 2 < cLine := by omega
    exact this
  · rw [stored_all (H := H) (h := h') (d := d) (P := X.prog) (w := X.w) hxn] at hm
    have hf : H s.heap.objs.size = none := I.hok.fresh (Nat.le_refl _)
    refine ⟨rfl, .ref s.heap.objs.size, upd H s.heap.objs.size (.dT (km kvs)), I.laid (t' := s.toks) (fun b ob e => ?_) (Nat.le_refl _) ?_, rfl, q _ hf⟩
    · exact (hs.2 b (Nat.ne_of_lt (Heap.lt_size e))).trans (Heap.get?_push_of_some _ e)
    · obtain ⟨o, es, ep, g1, g2, g3, g4, _, g5⟩ := hm
      exact ⟨z, beq_eq_false_iff_ne.mpr (Ne.symm (Nat.ne_of_lt I.big)), xs, rel.keeps fun b ys e => by rw [upd_ne (ne_of_none e hf)]; exact e, o, es, ep, g1, g2, g3, g4, g5⟩
end
end Sh
set_option Elab.async false
set_option linter.all false
set_option maxRecDepth 100000
set_option maxHeartbeats 1000000
/-! Rules: more of dicts whose keys are simplices: made of pairs, of a display, updated, emptied, compared. -/
namespace Sh
open PySem L2

/-! ### tuple(list): a tuple without attributes, known to the object -/
/-- a tuple of things of one kind, its object known to have no attributes -/
def TpP {β : Type} (k : Kd β) (H : Hp) (v : V) (bs : List β) : Prop := ∃ a o vs, v = .ref a ∧ H a = some (.frz o (.tup vs)) ∧ o.dict = none ∧ Paired (k.R H) vs bs
theorem TpP.tp {β : Type} {k : Kd β} {H : Hp} {v : V} {bs : List β} (h : TpP k H v bs) : (kTp k).R H v bs := by
  obtain ⟨a, o, vs, rfl, h, _, r⟩ := h
  exact ⟨a, vs, rfl, .inr ⟨o, h⟩, r⟩
theorem TpP.mono {β : Type} {k : Kd β} {H H' : Hp} {v : V} {bs : List β} (e : TEx H H') (h : TpP k H v bs) : TpP k H' v bs := by
  obtain ⟨a, o, vs, rfl, h, hd, r⟩ := h
  exact ⟨a, o, vs, rfl, e.f a o vs h, hd, pr_kmono k e r⟩
def rTupP {β : Type} (k : Kd β) : List V → Hp → VK → Prop := fun xs H Q => ∃ (v : V) (bs : List β), xs = [v] ∧ LsD k H v bs ∧ ∀ w H', Ex H H' → TpP k H' w bs → Q w H'
/-- tuple(list), a tracked tuple -/
def rTupD : List V → Hp → VK → Prop := fun xs H Q => ∃ (a : Addr) (vs : List V), xs = [.ref a] ∧ H a = some (.lst vs) ∧ ∀ w H', Ex H H' → IsD H' w vs → Q w H'
section
variable {X : Cx}
theorem call_tupP {β : Type} (k : Kd β) : CallR X (.type "tuple") (rTupP k) := by
  intro pins s σ H xs us Q I r h
  obtain ⟨v, bs, rfl, ⟨a, vs, rfl, ha, hp⟩, q⟩ := h
  obtain ⟨u, rfl, rx⟩ := vals1 r
  obtain rfl : u = .ref a := rx
  obtain ⟨its, rv, pl, hz⟩ := I.list (SqL.of ha)
  refine call_tuple_list pl.isList (fun h' kp => ?_) (by rw [List.size_toArray, ← rv.length]; exact hz)
  have I1 : Inv X pins σ H { s with heap := h' } := I.kept (t' := s.toks) kp
  have hf : H h'.objs.size = none := I1.hok.fresh (Nat.le_refl _)
  refine ⟨.ref h'.objs.size, upd H h'.objs.size (.frz { cls := .type "tuple", data := .seq its.toArray } (.tup vs)), I1.laid (t' := s.toks) (fun b o e => Heap.get?_push_of_some _ e) (Nat.le_refl _) ⟨Heap.get?_push_size _ rfl, hz, its, rv, PyProof.Rows.IsTup.new _ _⟩, rfl, ?_⟩
  exact q _ _ (Ex.new hf) ⟨_, _, vs, rfl, upd_same, rfl, pr_kmono k (Ex.new hf).t hp⟩
theorem call_tupD : CallR X (.type "tuple") rTupD := by
  intro pins s σ H xs us Q I r h
  obtain ⟨a, vs, rfl, ha, q⟩ := h
  exact call_tuple_of pins s σ H _ us Q I r ⟨a, vs, rfl, .inl ⟨SqL.of ha, fun l hl => q _ _ (Ex.new hl) ⟨l, rfl, upd_same⟩⟩⟩

/-! ### dict(pairs) -/
abbrev R3 (H : Hp) (l : Addr × Addr × Addr) (p : Sx × Sx) : Prop := H l.1 = some (.tup [.ref l.2.1, .ref l.2.2]) ∧ H l.2.1 = some (.tup ((kk p.1).map kV)) ∧ IsS H (.ref l.2.2) p.2
theorem r3_of {H : Hp} : ∀ {vs : List V} {ps : List (Sx × Sx)}, Paired (kP.R H) vs ps → ∃ L : List (Addr × Addr × Addr), vs = L.map (fun l => V.ref l.1) ∧ Paired (R3 H) L ps
  | _, _, .nil => ⟨[], rfl, .nil⟩
  | _, _, .cons r t => by
    obtain ⟨L, e, h⟩ := r3_of t
    obtain ⟨a, x, y, rfl, ha, hx, hy⟩ := r
    obtain ⟨b, rfl, hb⟩ := hx.key
    obtain ⟨c, rfl, hc⟩ := hy
    exact ⟨(a, b, c) :: L, by rw [e]; rfl, .cons ⟨ha, hb, ⟨c, rfl, hc⟩⟩ h⟩
def trips : List (Addr × Addr × Addr) → List (Sx × Sx) → List (List L2.Key × Addr × Value)
  | l :: L, p :: ps => (kk p.1, l.2.1, Value.ref l.2.2) :: trips L ps
  | _, _ => []
def upsV : List (Addr × Addr × Addr) → List (Sx × Sx) → SV
  | l :: L, p :: ps => (p.1, V.ref l.2.2) :: upsV L ps
  | _, _ => []
theorem trips_kt {H : Hp} : ∀ {L : List (Addr × Addr × Addr)} {ps : List (Sx × Sx)}, Paired (R3 H) L ps → KT H (km (upsV L ps)) (trips L ps)
  | _, _, .nil => .nil
  | _, _, .cons r t => .cons ⟨rfl, r.2.1, rfl⟩ (trips_kt t)
theorem trips_len {H : Hp} : ∀ {L : List (Addr × Addr × Addr)} {ps : List (Sx × Sx)}, Paired (R3 H) L ps → (trips L ps).length = L.length
  | _, _, .nil => rfl
  | _, _, .cons r t => congrArg (· + 1) (trips_len t)
theorem trips_get {H : Hp} : ∀ {L : List (Addr × Addr × Addr)} {ps : List (Sx × Sx)}, Paired (R3 H) L ps → ∀ (i : Nat) (l : Addr × Addr × Addr), L[i]? = some l → ∃ k, (trips L ps)[i]? = some (k, l.2.1, Value.ref l.2.2)
  | _, _, .nil, i, l, e => by simp at e
  | _, _, .cons r t, 0, l, e => by
    simp at e
    subst e
    exact ⟨_, rfl⟩
  | _, _, .cons r t, i + 1, l, e => by
    obtain ⟨k, h⟩ := trips_get t i l (by simpa using e)
    exact ⟨k, by simpa [trips] using h⟩
theorem upsV_pr {H : Hp} : ∀ {L : List (Addr × Addr × Addr)} {ps : List (Sx × Sx)}, Paired (R3 H) L ps → Paired (fun (q : Sx × V) p => q.1 = p.1 ∧ IsS H q.2 p.2) (upsV L ps) ps
  | _, _, .nil => .nil
  | _, _, .cons r t => .cons ⟨rfl, r.2.2⟩ (upsV_pr t)
/-- the pairs kvs of a dict and its data -/
abbrev Ups (H : Hp) (kvs : SV) (ps : List (Sx × Sx)) : Prop := Paired (fun (q : Sx × V) p => q.1 = p.1 ∧ IsS H q.2 p.2) kvs ps
theorem Ups.mono {H H' : Hp} {kvs : SV} {ps : List (Sx × Sx)} (e : TEx H H') (h : Ups H kvs ps) : Ups H' kvs ps := pr_mono h fun _ _ r => ⟨r.1, r.2.mono e⟩
theorem Ups.keys {H : Hp} : ∀ {kvs : SV} {ps : List (Sx × Sx)}, Ups H kvs ps → kvs.map (·.1) = ps.map (·.1)
  | _, _, .nil => rfl
  | _, _, .cons r t => by rw [List.map_cons, List.map_cons, r.1, Ups.keys t]
/-- dict(pairs) -/
def rPairsT : List V → Hp → VK → Prop := fun xs H Q => ∃ (v : V) (ps : List (Sx × Sx)), xs = [v] ∧ TpP kP H v ps ∧ (ps.map (·.1)).Nodup ∧ ∀ (p : Addr) (kvs : SV), H p = none → Ups H kvs ps → Q (.ref p) (upd H p (.dT (km kvs)))
theorem call_pairsT (hc : X.calm = true) (hu : X.A.units + 64 < cLine) : CallR X (.type "dict") rPairsT := by
  intro pins s σ H xs us Q I r h
  obtain ⟨v, ps, rfl, ⟨a, o, vs, rfl, ha, hd, hp⟩, hn, q⟩ := h
  obtain ⟨u, rfl, rx⟩ := vals1 r
  obtain rfl : u = .ref a := rx
  obtain ⟨hga, hz, its, rv, o', ho', hcl, n, hdat⟩ := (show ObjOk X.prog X.w H s.heap a (.frz o (.tup vs)) from I.hok a _ ha)
  rw [hga] at ho'
  cases ho'
  obtain ⟨L, rfl, h3⟩ := r3_of hp
  have hits : its = L.map fun l => Value.ref l.1 := by
    have gen : ∀ {L : List (Addr × Addr × Addr)} {its : List Value}, Vals (L.map fun l => V.ref l.1) its → its = L.map fun l => Value.ref l.1 := by
      intro L
      induction L with
      | nil =>
        intro its r
        cases r
        rfl
      | cons l L ih =>
        intro its r
        cases r with
        | cons r1 r2 =>
          rw [List.map_cons, ← ih r2]
          have : _ = Value.ref l.1 := r1
          rw [this]
    exact gen rv
  subst hits
  have kt := trips_kt h3
  have hkn : ((trips L ps).map (·.1)).Nodup := by
    rw [keys_kt kt]
    have e : (upsV L ps).map (fun p => kk p.1) = (ps.map (·.1)).map kk := by
      rw [← Ups.keys (upsV_pr h3), List.map_map]
      rfl
    rw [e]
    exact nodup_map_on hn fun x _ y _ e => kk_inj e
  have hzL : L.length ≤ sizeLine := by
    rw [List.length_map] at hz
    exact hz
  have P := PairArg.tuple (prog := X.prog) (w := X.w) a (L.map fun l => Value.ref l.1).toArray (fun j => ((L[j]?).map (·.1)).getD 0) (L.map fun l => (Value.ref l.2.1, Value.ref l.2.2))
  have tupAt : ∀ b ys, H b = some (.tup ys) → ∃ its', Vals ys its' ∧ s.heap.IsTuple b its'.toArray := fun b ys e => by
    obtain ⟨_, its', rv', p'⟩ := (show ObjOk X.prog X.w H s.heap b (.tup ys) from I.hok b _ e)
    exact ⟨its', rv', p'⟩
  refine call_dict_pairsH (knd := tupleKind (mixKind X.prog X.w)) (ps := trips L ps) P (I.ok.hd hc) (by show X.A.units + 1 + 1 < cLine; omega) ⟨⟨o, n, hga, hcl, hd, hdat⟩, by simp, fun j k v e => ?_⟩ ⟨?_, fun i key v e => ?_⟩ (fun h' hk x hx => ?_) (by rw [List.length_map]; exact hzL) fun h' tk hm hk => ?_
  · rw [List.getElem?_map] at e
    cases hl : L[j]? with
    | none =>
      rw [hl] at e
      cases e
    | some l =>
      rw [hl] at e
      simp only [Option.map_some, Option.some.injEq, Prod.mk.injEq] at e
      obtain ⟨rfl, rfl⟩ := e
      obtain ⟨p, _, rr⟩ := pr_get h3 hl
      obtain ⟨its', rv', p'⟩ := tupAt _ _ rr.1
      have e2 : its' = [Value.ref l.2.1, Value.ref l.2.2] := by
        cases rv' with
        | cons r1 r2 =>
          cases r2 with
          | cons r3 r4 =>
            cases r4
            have z1 : _ = Value.ref l.2.1 := r1
            have z2 : _ = Value.ref l.2.2 := r3
            rw [z1, z2]
      subst e2
      refine ⟨?_, .inl ?_⟩
      · simp [hl]
      · simp only [hl]
        exact p'
  · rw [List.length_map]
    exact trips_len h3
  · have e' : (L.map fun l => (Value.ref l.2.1, Value.ref l.2.2))[i]? = some (key, v) := e
    rw [List.getElem?_map] at e'
    cases hl : L[i]? with
    | none =>
      rw [hl] at e'
      cases e'
    | some l =>
      rw [hl] at e'
      simp only [Option.map_some, Option.some.injEq, Prod.mk.injEq] at e'
      obtain ⟨rfl, rfl⟩ := e'
      obtain ⟨k, hk⟩ := trips_get h3 i l hl
      exact ⟨k, l.2.1, hk, rfl⟩
  · have key : ∀ {l : List (List L2.Key × V)} {m : List (List L2.Key × Addr × Value)}, KT H l m → ∀ x ∈ m, (tupleKind (mixKind X.prog X.w)).is s.heap x.1 x.2.1 := by
      intro l m z
      induction z with
      | nil => intro x hx; exact nomatch hx
      | cons hq t ih =>
        intro x hx
        rcases List.mem_cons.mp hx with e | hx
        · subst e
          exact key_of I.hok (by rw [← hq.1]; exact hq.2.1)
        · exact ih x hx
    obtain ⟨o2, its2, n2, k1, k2⟩ := key kt x hx
    exact ⟨o2, its2, n2, hk _ _ (Nat.ne_of_lt (Heap.lt_size k1)) (fun z => nomatch z) k1, k2⟩
  · rw [stored_all (H := H) (h := h') (d := a) (P := X.prog) (w := X.w) hkn] at hm
    have hf : H s.heap.objs.size = none := I.hok.fresh (Nat.le_refl _)
    have hlen : (km (upsV L ps)).length ≤ sizeLine := by
      rw [Paired.length kt, trips_len h3]
      exact hzL
    refine ⟨.ref s.heap.objs.size, upd H s.heap.objs.size (.dT (km (upsV L ps))), I.laid (t' := tk) (fun b ob e => hk b ob (fun z => nomatch z) e) (Nat.le_refl _) ?_, rfl, q _ _ hf (upsV_pr h3)⟩
    obtain ⟨o2, es, ep, g1, g2, g3, g4, _, g5⟩ := hm
    exact ⟨hlen, beq_eq_false_iff_ne.mpr (Ne.symm (Nat.ne_of_lt I.big)), trips L ps, kt.keeps fun b ys e => by rw [upd_ne (ne_of_none e hf)]; exact e, o2, es, ep, g1, g2, g3, g4, g5⟩
end

/-! ### {k: v, ..}, d.update(..) -/
def mergeS (kvs more : SV) : SV := more.foldl (fun acc kv => putK acc kv.1 kv.2) kvs
theorem mergeS_len : ∀ (more kvs : SV), (mergeS kvs more).length ≤ kvs.length + more.length
  | [], kvs => by show kvs.length ≤ kvs.length + 0; omega
  | p :: r, kvs => by
    have h1 := mergeS_len r (putK kvs p.1 p.2)
    have h2 := putK_length kvs p.1 p.2
    show (mergeS (putK kvs p.1 p.2) r).length ≤ _
    rw [List.length_cons]
    omega
theorem kt_merge {H : Hp} : ∀ {more : SV} {ys : List (List L2.Key × Addr × Value)} {kvs : SV} {xs : List (List L2.Key × Addr × Value)}, KT H (km more) ys → KT H (km kvs) xs → KT H (km (mergeS kvs more)) (storedAllH xs ys)
  | [], _, _, _, r, q => by
    have r' : KT H [] _ := r
    cases r'
    exact q
  | p :: more, _, kvs, xs, r, q => by
    have r' : KT H ((kk p.1, p.2) :: km more) _ := r
    cases r' with
    | @cons _ b _ bs h t =>
      have e : KT H (km (putK kvs p.1 p.2)) (storedH xs b.1 b.2.1 b.2.2) := by
        have := KT.put q (kk p.1) h.2.1 h.2.2
        rw [putK_km] at this
        rw [← h.1]
        exact this
      exact kt_merge (more := more) (ys := bs) (kvs := putK kvs p.1 p.2) (xs := storedH xs b.1 b.2.1 b.2.2) t e
section
variable {X : Cx}
def tDispT (trs : List (TE × TE)) : TE := fun σ H Q => ∀ p, H p = none → tPairs trs σ (upd H p (.dT [])) fun ps H2 => H2 p = some (.dT []) ∧ ∃ kvs : SV, Paired (fun (q : V × V) (kv : Sx × V) => IsS H2 q.1 kv.1 ∧ q.2 = kv.2) ps kvs ∧ kvs.length ≤ 15 ∧ Q (.ref p) (upd H2 p (.dT (km (mergeS [] kvs))))
theorem carriesT {P : Program} {w : World} {H : Hp} {h : Heap} (ok : HOk P w H h) : ∀ {ps : List (V × V)} {kvs : SV} {ws : List (Value × Value)}, Paired (fun (q : V × V) (kv : Sx × V) => IsS H q.1 kv.1 ∧ q.2 = kv.2) ps kvs → VV ps ws → ∃ rs, CarriesH (tupleKind (mixKind P w)) h ws rs ∧ KT H (km kvs) rs
  | _, _, _, .nil, .nil => ⟨[], True.intro, .nil⟩
  | _, _, _, .cons (a := a) (b := b) r t, .cons (b := c) v vt => by
    obtain ⟨rs, h1, h2⟩ := carriesT ok t vt
    obtain ⟨c1, c2⟩ := c
    obtain ⟨⟨a1, a2⟩, b1, b2⟩ := a, b
    obtain ⟨r1, r2⟩ := r
    obtain ⟨v1, v2⟩ := v
    obtain ⟨bb, e, hb⟩ := r1.key
    simp only at e r2 v1 v2 hb
    subst e r2
    have e1 : c1 = Value.ref bb := v1
    subst e1
    exact ⟨(kk b1, bb, c2) :: rs, ⟨rfl, rfl, key_of ok hb, h1⟩, .cons ⟨rfl, hb, v2⟩ h2⟩
theorem pe_dispT {pos : Pos} {keys : List (Option Expr)} {values : List Expr} {trs : List (TE × TE)} (hu : X.A.units + 64 < cLine) (h : PPs X pos keys values trs) (hall : keys.all (·.isSome) = true) (hl : keys.length = values.length) (h0 : keys ≠ [])
    (h15 : keys.length ≤ 15) : PE X (.Dict keys values pos) (tDispT trs) := by
  refine ⟨fun pins s σ H Q I q => ?_⟩
  have hn := I.hok.fresh (Nat.le_refl s.heap.objs.size)
  have I1 := I.laid (a := s.heap.objs.size) (o := .dT []) (h' := s.heap.push { cls := .type "dict", data := .dict #[] }) (t' := s.toks) (fun _ _ q => Heap.get?_push_of_some _ q) (Nat.le_refl _) (dt_empty s.heap I.big)
  have hlen := pairTrees_length keys values X.env pos hall hl
  rw [arm_eval_Dict, zip_pairTrees keys values X.env pos hall hl, dictDisplay_pairs _ (fun he => h0 (List.length_eq_zero_iff.mp (by rw [← hlen, he]; rfl))) (by rw [hlen]; omega)]
  refine wpAny_bind (wpAny_standAt (wpAny_bind (wpAny_subDictH (knd := tupleKind (mixKind X.prog X.w)) (by show X.A.units < cLine; omega) (by rw [hlen]; exact h15) (thn (h.run pins _ σ _ _ I1 (q _ hn)) fun ws s2 hh => ?_))))
  obtain ⟨ps, H2, I2, rel, e, kvs, pr, hlk, q2⟩ := hh
  obtain ⟨rs, c, kt⟩ := carriesT I2.hok pr rel
  obtain ⟨z, hd, xs0, r0, dd⟩ := dt_of I2.hok e
  cases r0
  refine ⟨rs, c, dd, fun h' tk dd' hs => wpAny_pure ⟨.ref s.heap.objs.size, upd H2 s.heap.objs.size (.dT (km (mergeS [] kvs))), ?_, rfl, q2⟩⟩
  obtain ⟨o, es, ep, hq, g2, g3, g4, _, g5⟩ := dd'
  have km2 : KT H2 (km (mergeS [] kvs)) (storedAllH [] rs) := kt_merge kt (show KT H2 (km []) [] from .nil)
  refine d_write I2 (by rw [e]; exact True.intro) hs ⟨o, hq⟩ ⟨?_, hd, _, km2.keeps (fun c2 ys ec => by rw [upd_ne (ne_of ec e (fun z => nomatch z))]; exact ec), o, es, ep, hq, g2, g3, g4, g5⟩
  have := mergeS_len kvs []
  rw [km_len, sizeLine_eq]
  simp at this
  omega
end
end Sh
set_option Elab.async false
set_option linter.all false
set_option maxRecDepth 100000
set_option maxHeartbeats 1000000
/-! Rules: d.update(d2), d.pop(k), d != {}, walks of d.items() and of enumerate(tuple). -/
namespace Sh
open PySem L2
section
variable {X : Cx}
/-- d.update(d2); where d is empty, the keys of d2 hash apart -/
def rUpdT : V → List V → Hp → VK → Prop := fun x xs H Q => ∃ (d o : Addr) (kvs more : SV), x = .ref d ∧ xs = [.ref o] ∧ H d = some (.dT (km kvs)) ∧ H o = some (.dT (km more)) ∧ d ≠ o ∧
  (kvs ≠ [] ∨ ((more.map (·.1)).Nodup ∧ ∀ p ∈ more, p.1 ∈ all7)) ∧ kvs.length + more.length ≤ 1000000 ∧ Q .non (upd H d (.dT (km (mergeS kvs more))))
theorem mt_updT (hu : X.A.units + 64 < cLine) : MtR X "dict.update" rUpdT := by
  intro pins s σ H x xs v us Q I rx rxs h
  obtain ⟨d, o, kvs, more, rfl, rfl, hd, ho, hne, hap, hz, q⟩ := h
  cases rx
  obtain ⟨u1, rfl, r1⟩ := vals1 rxs
  cases r1
  obtain ⟨z1, s1, xs1, k1, d1⟩ := dt_of I.hok hd
  obtain ⟨z2, s2, ys2, k2, d2⟩ := dt_of I.hok ho
  have l1 := Paired.length k1
  have l2 := Paired.length k2
  rw [km_len] at l1 l2
  refine call_update_dictH (knd := tupleKind (mixKind X.prog X.w)) (by show X.A.units + 1 < cLine; omega) hne s2 d1 d2 ?_ (by rw [← l1, ← l2]; exact sz5 hz) fun h' hm _ hs => ?_
  · rcases hap with e | ⟨e1, e2⟩
    · refine .inl fun z => e ?_
      rw [z] at l1
      exact List.length_eq_zero_iff.mp l1
    · exact .inr ⟨kt_tuple rfl d2, hash_kt k2 e1 e2⟩
  · obtain ⟨ob, es, ep, g1, g2, g3, g4, _, g5⟩ := hm
    have kt := kt_merge k2 k1
    have hl := mergeS_len more kvs
    have hzz : (km (mergeS kvs more)).length ≤ sizeLine := by
      rw [km_len]
      exact Nat.le_trans hl (sz5 hz)
    have I2 : Inv X pins σ (upd H d (.dT (km (mergeS kvs more)))) { s with heap := h', toks := s.toks } :=
      d_write I (by rw [hd]; exact True.intro) hs ⟨ob, g1⟩ ⟨hzz, s1, _, kt.keeps (fun c ys ec => by rw [upd_ne (ne_of ec hd (fun z => nomatch z))]; exact ec), ob, es, ep, g1, g2, g3, g4, g5⟩
    exact ⟨.non, _, I2, rfl, q⟩

/-- d.pop(k), k is there -/
def rPop1T : V → List V → Hp → VK → Prop := fun x xs H Q => ∃ (d : Addr) (kvs : SV) (y : V) (k : Sx) (v : V), x = .ref d ∧ xs = [y] ∧ H d = some (.dT (km kvs)) ∧ IsS H y k ∧ valV kvs k = some v ∧ Q v (upd H d (.dT (km (dropK kvs k))))
theorem meetsPop1 {prog : Program} {w : World} {K : Type} [DecidableEq K] {knd : HeapKind prog w K} {d b : Addr} {k : K} (hd : (d == sysModules) = false) :
    MeetsIn prog w (Builtin.«dict.pop» ⟨[.ref d, .ref b], []⟩) (fun A R s => ∃ xs p, knd.room A.in1 ∧ knd.is s.heap k b ∧ s.heap.DictOfH knd d xs ∧ xs.length ≤ sizeLine ∧ atKey xs k = some p ∧
      ∀ h' tk, h'.DictOfH knd d (DT.dropH xs k) → Heap.SameBut d s.heap h' → R (.ok (.ret p.2)) { s with heap := h', toks := tk }) :=
  .of_wp fun A R s ⟨xs, p, hu, hkey, hm, hsz, hp, hq⟩ => by
    obtain ⟨o, es, ep, ho, hc, hdat, he, his, hn⟩ := id hm
    have hsz2 : es.size = xs.length := size_of_entries he
    have hpart : (keyPart (Value.ref b)).isSome = false := rfl
    unfold Builtin.«dict.pop»
    refine wpAny_bind ?_
    unfold Builtin.Dict.keyAndDefault
    refine wpAny_bind (wpAny_notOrdered_dict hm.typeIs ?_)
    refine wpAny_pure ?_
    simp only [hpart, Bool.false_eq_true, if_false]
    refine wpAny_bind (wpAny_dictEntries ho hdat (wpAny_bind (wpAny_pure ?_)))
    have hem : es.isEmpty = false := by
      cases e : es.isEmpty with
      | false => rfl
      | true =>
        have h0 : xs = [] := by
          have z : es.size = 0 := by simpa using e
          exact List.length_eq_zero_iff.mp (by omega)
        rw [h0] at hp
        cases hp
    simp only [hem, Bool.false_eq_true, if_false]
    refine wpAny_bind (DT.takeH hu hkey hm hsz (fun hno => ?_) fun p' e hp' hev h' hm' hs' => ?_)
    · rw [hp] at hno
      cases hno
    · rw [hp] at hp'
      cases hp'
      simp only [Option.isNone_some, Bool.false_eq_true, if_false]
      exact wpAny_bind (wpAny_letGo (wpAny_pure ⟨e.val, rfl, by rw [hev]; exact hq h' _ hm' hs'⟩))
theorem mt_pop1T (hu : X.A.units + 64 < cLine) : MtR X "dict.pop" rPop1T := by
  intro pins s σ H x xs v us Q I rx rxs h
  obtain ⟨d, kvs, y, k, w, rfl, rfl, hd, hy, hv, q⟩ := h
  cases rx
  obtain ⟨b, rfl, hb⟩ := hy.key
  obtain ⟨u1, rfl, r1⟩ := vals1 rxs
  cases r1
  obtain ⟨z, hsm, xs', rel, dd⟩ := dt_of I.hok hd
  have hz : xs'.length ≤ sizeLine := by rw [← Paired.length rel]; exact z
  have rv := rel.val (kk k)
  rw [valV_km, hv] at rv
  obtain ⟨p, hp, rp⟩ : ∃ p, atKey xs' (kk k) = some p ∧ RelV w p.2 := by
    cases e : atKey xs' (kk k) with
    | none =>
      rw [e] at rv
      exact (show False from rv).elim
    | some p =>
      rw [e] at rv
      exact ⟨p, rfl, rv⟩
  refine call_meetsIn PySem.F.slot_dict_pop dd.typeIs PySem.F.entry_dict_pop (PySem.F.args_dict_pop_2 _ _) (meetsPop1 (knd := tupleKind (mixKind X.prog X.w)) (k := kk k) hsm)
    ⟨xs', p, by show X.A.units + 1 < cLine; omega, key_of I.hok hb, dd, hz, hp, fun h' tk dd' hs => ?_⟩
  obtain ⟨o, es, ep, hq, h2, h3, h4, _, h5⟩ := dd'
  have kd := L2.DX.KT_drop (kk k) rel
  rw [dropK_km] at kd
  have I2 : Inv X pins σ (upd H d (.dT (km (dropK kvs k)))) { s with heap := h', toks := tk } :=
    d_write I (by rw [hd]; exact True.intro) hs ⟨o, hq⟩ ⟨by
      rw [km_len]
      have h1 := dropK_le kvs k
      rw [km_len] at z
      exact Nat.le_trans h1 z, hsm, _, kd.keeps (fun c ys ec => by rw [upd_ne (ne_of ec hd (fun z => nomatch z))]; exact ec), o, es, ep, hq, h2, h3, h4, h5⟩
  show EP X pins σ Q p.2 _
  exact ⟨w, _, I2, rp, q⟩

/-- d != {} -/
def rNeE : R2 := fun x y H Q => ∃ (d e : Addr) (kvs : SV), x = .ref d ∧ y = .ref e ∧ H d = some (.dT (km kvs)) ∧ H e = some (.dT []) ∧ Q (.bl (!kvs.isEmpty)) H
theorem apart_sizes {prog : Program} {w : World} {A : Around} {E : Value → Shared → Prop} {s : Shared} {nm : String} {a b : Addr} {oa ob : Obj} {es es' : Array DictEntry} {ep ep' : Nat} {Q : Bool → Shared → Prop}
    (ha : (a == sysModules) = false) (hb : (b == sysModules) = false) (hoa : s.heap.get? a = some oa) (hda : oa.data = .dict es ep) (hob : s.heap.get? b = some ob) (hdb : ob.data = .dict es' ep') (hz : ¬ es.size = es'.size) (h : Q false s) :
    wpAny (model prog w) A (Builtin.Dict.samePairs nm a b) Q E s := by
  unfold Builtin.Dict.samePairs Builtin.Dict.showsAll
  rw [if_neg (by rw [ha]; exact Bool.false_ne_true), if_neg (by rw [hb]; exact Bool.false_ne_true)]
  refine wpAny_bind (wpAny_pure (wpAny_bind (wpAny_pure (wpAny_bind (wpAny_dictEntries hoa hda ?_)))))
  dsimp only
  refine wpAny_bind (wpAny_dictEntries hob hdb ?_)
  rw [if_pos (by simpa using hz)]
  exact wpAny_bind (wpAny_rule (wpAny_pure h))
theorem op_neE (hu : X.A.units + 64 < cLine) : OpR X (compareOp .NotEq) rNeE := by
  intro pins s σ H x y v u Q I rx ry h
  obtain ⟨d, e, kvs, rfl, rfl, hd, he, q⟩ := h
  obtain rfl : v = Value.ref d := rx
  obtain rfl : u = Value.ref e := ry
  obtain ⟨z1, s1, xs1, k1, o1, es1, ep1, a1, b1, c1, d1, f1, g1⟩ := dt_of I.hok hd
  obtain ⟨z2, s2, xs2, k2, o2, es2, ep2, a2, b2, c2, d2, f2, g2⟩ := dt_of I.hok he
  have l1 := Paired.length k1
  have l2 := Paired.length k2
  rw [km_len] at l1
  have m1 : es1.size = xs1.length := size_of_entries d1
  have m2 : es2.size = xs2.length := size_of_entries d2
  have t1 : s.TypeIs (.ref d) "dict" := ⟨o1, a1, b1.1⟩
  have t2 : s.TypeIs (.ref e) "dict" := ⟨o2, a2, b2.1⟩
  by_cases hk : kvs = []
  · subst hk
    have e1 : es1 = #[] := by
      apply Array.eq_empty_of_size_eq_zero
      have : ([] : SV).length = 0 := rfl
      omega
    have e2 : es2 = #[] := by
      apply Array.eq_empty_of_size_eq_zero
      have : ([] : List (List L2.Key × V)).length = 0 := rfl
      omega
    subst e1 e2
    have D1 : s.heap.DictOf (mixKind X.prog X.w) d [] := ⟨o1, #[], ep1, a1, b1, c1, (fun _ hx => nomatch hx), .nil, List.nodup_nil⟩
    have D2 : s.heap.DictOf (mixKind X.prog X.w) e [] := ⟨o2, #[], ep2, a2, b2, c2, (fun _ hx => nomatch hx), .nil, List.nodup_nil⟩
    exact PySem.W.keq_ne (knd := mixKind X.prog X.w) (r := true) s1 s2 D1 D2 (by omega) (fun _ => .nil) ⟨.bl false, H, I, rfl, q⟩
  · have hn : ¬ es1.size = es2.size := by
      have h1 : kvs.length ≠ 0 := fun z => hk (List.length_eq_zero_iff.mp z)
      have h2 : ([] : List (List L2.Key × V)).length = 0 := rfl
      omega
    have hq : (!kvs.isEmpty) = true := by
      cases kvs with
      | nil => exact absurd rfl hk
      | cons _ _ => rfl
    rw [hq] at q
    refine wpAny_richCompare_same_room (op := .NotEq) t1 t2 PySem.F.slot_dict_ne (wpAny_call_entry PySem.F.slot_dict_ne t1 PySem.F.entry_dict_ne ?_ (PySem.F.args_dict_ne_2 _ _)) (by omega)
    show wpAny _ _ (Builtin.Dict.dictSlotArgs "__ne__" ⟨[.ref d, .ref e], []⟩ >>= _) _ _ s
    refine wpAny_bind ?_
    unfold Builtin.Dict.dictSlotArgs
    refine wpAny_bind (wpAny_notOrdered_dict t1 (wpAny_pure ?_))
    refine wpAny_bind (wpAny_isInstance (T := "dict") t2 PySem.F.sub_dict_dict ?_)
    simp only [Bool.not_true, Bool.false_eq_true, if_false]
    refine wpAny_bind (wpAny_pure (wpAny_bind (wpAny_pure (wpAny_bind (apart_sizes s1 s2 a1 c1 a2 c2 hn ?_)))))
    refine wpAny_pure ⟨_, rfl, ?_, ?_⟩
    · exact fun z => nomatch z
    · exact ⟨.bl true, H, I, rfl, q⟩
end
end Sh
set_option Elab.async false
set_option linter.all false
set_option maxRecDepth 100000
set_option maxHeartbeats 1000000
/-! Rules: walks of d.items() and of enumerate(tuple); dict comprehensions with keys that are simplices. -/
namespace Sh
open PySem L2

/-! ### for k, v in d.items() -/
def ItiT (d : Addr) (o : Obj) (kvs : SV) : It :=
  ⟨fun i H => H d = some (.frz o (.dT (km kvs))) ∧ i < kvs.length,
    fun i H x H' => ∃ T k v y, kvs[i]? = some (k, v) ∧ x = .ref T ∧ H T = none ∧ IsS H y k ∧ H' = upd H T (.tup [y, v]),
    fun i H => H d = some (.frz o (.dT (km kvs))) ∧ kvs.length ≤ i⟩
section
variable {X : Cx} {pins : List (Addr × Obj)} {σ : St} {H : Hp} {s : Shared} {d : Addr} {o : Obj}
theorem frz_ents {kvs : SV} (I : Inv X pins σ H s) (h : H d = some (.frz o (.dT (km kvs)))) :
    (d == sysModules) = false ∧ s.heap.get? d = some o ∧ o.ExactDict ∧ ∃ (es : Array DictEntry) (ep : Nat), o.data = .dict es ep ∧ es.size = kvs.length ∧
      ∀ (i : Nat) (k : Sx) (v : V), kvs[i]? = some (k, v) → ∃ (en : DictEntry) (q : Addr), es[i]? = some en ∧ en.key = .ref q ∧ IsS H (.ref q) k ∧ RelV v en.val := by
  obtain ⟨hd, z, hs, xs, pr, o', es, ep, ho, hx, hdt, he, _⟩ := I.hok d _ h
  rw [hd] at ho
  cases ho
  refine ⟨hs, hd, hx, es, ep, hdt, ?_, fun i k v e => ?_⟩
  · have l1 : es.size = xs.length := size_of_entries he
    have l2 := Paired.length pr
    rw [km_len] at l2
    omega
  · have e' : (km kvs)[i]? = some (kk k, v) := by
      rw [km_get, e]
      rfl
    obtain ⟨b, hb, e1, e2, e3⟩ := paired_get pr e'
    have q := entry_at he i
    rw [hb] at q
    exact ⟨_, b.2.1, q, rfl, IsS.of_key e2, e3⟩
end
section
variable {P : Program} {w : World} {K : PySem.W.Frag} {d : Addr} {o : Obj} {es : Array DictEntry} {ep : Nat}
theorem turn_itemsT {kvs : SV} {elts : List Expr} {kz : Nat} {tpos : Pos} (it : Addr) (hod : o.data = .dict es ep) (hsz : es.size = kvs.length) :
    Turn P w K (.Tuple elts kz tpos) (ItiT d o kvs) [it] it (fun i h => ∃ ok ov, IsItemIter h it d i es.size ep ok ov) where
  mem := by simp
  obj := fun i h st b hb => by
    obtain rfl : b = it := by simpa using hb
    obtain ⟨ok, ov, e⟩ := st
    exact ⟨_, e, fun v z => nomatch z⟩
  keep := fun i h h' st k => let ⟨ok, ov, e⟩ := st; ⟨ok, ov, k it (by simp) _ e⟩
  item := by
    intro X hP hw hK hc i pins s σ H E I hf st hg
    subst hP hw hK
    obtain ⟨hd, hi⟩ := hg
    obtain ⟨hs, hgd, hx, es', ep', hdt, hsz', ents⟩ := frz_ents I hd
    obtain ⟨rfl, rfl⟩ := dict_ep hod hdt
    obtain ⟨⟨k, v⟩, hkv⟩ : ∃ p, kvs[i]? = some p := ⟨kvs[i], List.getElem?_eq_getElem hi⟩
    obtain ⟨en, q, hen, hk, hS, rv⟩ := ents i k v hkv
    have hie : i < es'.size := by omega
    have hen' : es'[i] = en := by
      rw [Array.getElem?_eq_getElem hie] at hen
      exact Option.some.inj hen
    obtain ⟨ok, ov, he⟩ := st
    have hlt : it < s.heap.objs.size := Heap.lt_size he
    refine DT.nextI he ⟨o, hgd, hx, hod⟩ hie fun h' ho hT hz hk2 => ?_
    refine ⟨_, rfl, wpAny_letOwnedTupleGo_items (s := { s with heap := h' }) ho fun h2 he' sb => ?_⟩
    have hT2 := (sb.2 _ (Nat.ne_of_gt hlt)).trans hT
    rw [hen'] at hT2
    have new : ObjOk X.prog X.w (upd H s.heap.objs.size (.tup [.ref q, v])) h2 s.heap.objs.size (.tup [.ref q, v]) :=
      ⟨by show 2 ≤ sizeLine; decide, [en.key, en.val], .cons hk (.cons rv .nil), ⟨_, hT2, rfl, _, rfl⟩⟩
    have I1 : Inv X pins σ (upd H s.heap.objs.size (.tup [.ref q, v])) { s with heap := h2 } :=
      I.turnedNew (t' := s.toks) (ch := [it]) (fun b ob hb e => (sb.2 b (by simpa using hb)).trans (hk2 b ob (by simpa using hb) e)) hf (Nat.le_refl _) new
    refine ⟨.ref s.heap.objs.size, _, I1, rfl, ⟨_, k, v, .ref q, hkv, rfl, I.hok.fresh (Nat.le_refl _), hS, rfl⟩, ⟨_, _, he'⟩, fun b hb => ?_⟩
    obtain rfl : b = it := by simpa using hb
    rw [upd_ne (Nat.ne_of_lt hlt)]
    exact (hf b (by simp)).1
  done := by
    intro X hP hw hK hc i pins s σ H E I hf st hg
    subst hP hw hK
    obtain ⟨hd, hi⟩ := hg
    obtain ⟨f0, f1, f2, f3, f4, f5⟩ := hf it (by simp)
    obtain ⟨hs, hgd, hx, es', ep', hdt, hsz', ents⟩ := frz_ents I hd
    obtain ⟨rfl, rfl⟩ := dict_ep hod hdt
    obtain ⟨ok, ov, he⟩ := st
    exact DT.endI (I.ok.hd hc) he ⟨o, hgd, hx, hod⟩ (by omega) fun h' eb => ⟨rfl, I.turned (t' := s.toks) (fun b ob hb e => eb b ob hb e) f0 f1 f3 f4 f5⟩
  self := fun A i s Q E st h => let ⟨_, _, e⟩ := st; PySem.W.kcp_self e h
end
/-- the dict is locked -/
def iItemsT (td : TE) : TI := fun σ H R => td σ H fun x H1 => ∃ d o kvs, x = .ref d ∧ H1 d = some (.frz o (.dT (km kvs))) ∧ R (ItiT d o kvs) H1
theorem pi_itemsT {X : Cx} {e : Expr} {td : TE} {apos cpos : Pos} {elts : List Expr} {kz : Nat} {tpos : Pos} (he : PE X e td) (hbase : attributeBase e "items" X.env (eval e X.env) = eval e X.env := by rfl) (hline : (apos.endLine == cpos.line) = true := by rfl) :
    PI X (.Tuple elts kz tpos) (.Call (.Attribute e "items" apos) [] [] cpos) (iItemsT td) := by
  refine ⟨fun pins s σ H R I h => ?_⟩
  refine wpAny_Call_method (T := "dict") (id := "dict.items") hbase rfl hline F.plainAttrs_dict F.slot_dict_items F.type_dict_items (thn (he.run pins s σ H _ I h) fun u s1 ⟨x, H1, I1, rx, d, o, kvs, ex, hd, q⟩ => ?_)
  subst ex
  obtain rfl : u = Value.ref d := rx
  obtain ⟨hs, hgd, hx, es, ep, hdt, hsz, ents⟩ := frz_ents I1 hd
  have hT : s1.TypeIs (.ref d) "dict" := ⟨o, hgd, hx.1⟩
  refine ⟨hT, ?_, ?_⟩
  · intro b e
    cases e
    exact ⟨o, hgd, hx.2.1⟩
  have I2 : Inv X pins σ H1 { s1 with heap := s1.heap.push { cls := .type "dict_items", data := .fields #[.ref d] } } := I1.kept (t' := s1.toks) fun b ob q => Heap.get?_push_of_some _ q
  have fin : wpAny (model X.prog X.w) X.A (pyIter (.ref s1.heap.objs.size)) (PIE X pins σ (.Tuple elts kz tpos) R) X.xe { s1 with heap := s1.heap.push { cls := .type "dict_items", data := .fields #[.ref d] } } := by
    refine DT.iterI (d := d) (es := es) (ep := ep) ⟨_, Heap.get?_push_size _ rfl, rfl, rfl⟩ ⟨o, Heap.get?_push_of_some _ hgd, hx, hdt⟩ (pi_one (tk := s1.toks) I2 _ (turn_itemsT _ hdt hsz) ⟨.none, .none, ?_⟩ q)
    exact Heap.get?_push_size _ rfl
  show wpAny _ _ (callWith cpos (.builtin "dict.items") [.ref d] [] []) _ X.xe s1
  exact method_meetsIn F.slot_dict_items F.entry_dict_items rfl (PySem.evalArgs_none ⟨rfl, hT, F.args_dict_items_1 _, _, DT.meetsItems (es := es) (ep := ep) hs, ⟨o, hgd, hx, hdt⟩, fin⟩)
end Sh
set_option Elab.async false
set_option linter.all false
set_option maxRecDepth 100000
set_option maxHeartbeats 1000000
/-! Rules: enumerate of a tuple. -/
namespace Sh
open PySem L2
open AutoSeq1 (wpAny_loadPart')

theorem meets_enum_tuple (l : Addr) (items : Array Value) (n : Nat) (dct : Option Addr) (sl : Array (Option Value)) :
    Meets (Builtin.«enumerate.__new__» ⟨[.type "enumerate", .ref l], []⟩) (fun _ R s => s.heap.get? l = some { cls := .type "tuple", dict := dct, data := .seq items n, slots := sl } ∧
      R (.ok (.ret (.ref (s.heap.push { cls := .type "tuple_iterator", data := .fields #[.ref l, .int 0 0] }).objs.size)))
        { s with heap := (s.heap.push { cls := .type "tuple_iterator", data := .fields #[.ref l, .int 0 0] }).push { cls := .type "enumerate", data := .fields #[.none, .bool false, .ref s.heap.objs.size, rawInt 0, .none, .none] } }) :=
  .of_wp fun prog w A R s h => by
    obtain ⟨hp, g, d, tk, os⟩ := s
    obtain ⟨hl, h⟩ := h
    have hsub := sub_enumerate
    have hL : Heap.IsTuple (Shared.heap ⟨hp, g, d, tk, os⟩) l items := ⟨_, hl, rfl, n, rfl⟩
    wp_walk using wpAny_loadPart' hl
    refine wpAny_stack_any fun st => wpAny_pure ?_
    split
    · rename_i c _ _ _ _ _
      cases (c == Value.type "enumerate")
      · wp_walk using wpAny_loadPart' hl, wpAny_pyIter_tuple hL
        exact ⟨_, rfl, h⟩
      · wp_walk using wpAny_loadPart' hl, wpAny_pyIter_tuple hL
        exact ⟨_, rfl, h⟩
    · wp_walk using wpAny_loadPart' hl, wpAny_pyIter_tuple hL
      exact ⟨_, rfl, h⟩
theorem call_enum_tuple {prog : Program} {w : World} {A : Around} {E : Value → Shared → Prop} {s : Shared} {l : Addr} {items : Array Value} {Q : Value → Shared → Prop} (hL : s.heap.IsTuple l items)
    (h : ∀ h', IsEnum h' (s.heap.objs.size + 1) s.heap.objs.size 0 .none → h'.IsTupleIter s.heap.objs.size l 0 →
      (∀ b o, s.heap.get? b = some o → h'.get? b = some o) → Q (.ref (s.heap.objs.size + 1)) { s with heap := h' }) :
    wpAny (model prog w) A (call (.type "enumerate") [.ref l]) Q E s := by
  obtain ⟨⟨c, dct, dt, sl⟩, hl, hc, n, hd⟩ := hL
  obtain rfl : c = .type "tuple" := hc
  obtain rfl : dt = .seq items n := hd
  refine callType_new F.called_enumerate (by decide) (F.typeCall_enumerate_1 _) (F.newCall_enumerate_1 _) (fun obj => F.args_object_init_2 obj _) F.entry_enumerate_new
    (meets_enum_tuple l items n dct sl) ⟨hl, ?_⟩
  have hz : (s.heap.push { cls := .type "tuple_iterator", data := .fields #[.ref l, .int 0 0] }).objs.size = s.heap.objs.size + 1 := Heap.size_push ..
  show _ ∧ _
  rw [hz]
  have he : IsEnum ((s.heap.push { cls := .type "tuple_iterator", data := .fields #[.ref l, .int 0 0] }).push
      { cls := .type "enumerate", data := .fields #[.none, .bool false, .ref s.heap.objs.size, rawInt 0, .none, .none] }) (s.heap.objs.size + 1) s.heap.objs.size 0 .none := by
    have q := Heap.get?_push_size (s.heap.push { cls := .type "tuple_iterator", data := .fields #[.ref l, .int 0 0] })
      (o := { cls := .type "enumerate", data := .fields #[.none, .bool false, .ref s.heap.objs.size, rawInt 0, .none, .none] }) rfl
    rw [hz] at q
    exact q
  exact ⟨⟨_, he, rfl⟩, h _ he ⟨_, Heap.get?_push_of_some _ (Heap.get?_push_size _ rfl), rfl, rfl⟩ fun b o x => Heap.get?_push_of_some _ (Heap.get?_push_of_some _ x)⟩

/-- the tuple at a, each item in a new pair -/
def IteT (K : PySem.W.Frag) (a : Addr) (xs : List V) : It :=
  ⟨fun i H => SqT K H a xs ∧ i < xs.length, fun i H v H' => ∃ T x, v = .ref T ∧ H T = none ∧ H' = upd H T (.tup [.int (i : Nat), x]) ∧ xs[i]? = some x, fun i H => SqT K H a xs ∧ i = xs.length⟩
theorem turn_enumT {P : Program} {w : World} {K : PySem.W.Frag} {elts : List Expr} {kz : Nat} {tpos : Pos} {xs : List V} (a e it : Addr) :
    Turn P w K (.Tuple elts kz tpos) (IteT K a xs) [e, it] e (fun i h => (∃ old, IsEnum h e it ((i : Nat) : Int) old) ∧ h.IsTupleIter it a i ∧ e ≠ it) where
  mem := by simp
  obj := fun i h st b hb => by
    obtain ⟨⟨old, he⟩, ⟨o, ho, hc, hd⟩, _⟩ := st
    have e' : b = e ∨ b = it := by simpa using hb
    rcases e' with rfl | rfl
    · exact ⟨_, he, fun v q => nomatch q⟩
    · exact ⟨o, ho, fun v q => by rw [hd] at q; cases q⟩
  keep := fun i h h' st k => let ⟨⟨old, he⟩, hi, hne⟩ := st; ⟨⟨old, k e (by simp) _ he⟩, hi.at fun o q => k it (by simp) o q, hne⟩
  item := by
    intro X hP hw hK hc i pins s σ H E I hf st hg
    subst hP hw hK
    obtain ⟨⟨old, he⟩, hit, hne⟩ := st
    obtain ⟨hq, hi⟩ := hg
    obtain ⟨its, rv, p, hz⟩ := I.tuple hq
    have hel : e < s.heap.objs.size := Heap.lt_size he
    have hil : it < s.heap.objs.size := by
      obtain ⟨_, q, _⟩ := hit
      exact Heap.lt_size q
    have hae : a ≠ e := fun z => by
      obtain ⟨o, g1, g2, _⟩ := p
      rw [z, he] at g1
      cases g1
      have g3 : Value.type "enumerate" = Value.type "tuple" := g2
      exact absurd g3 (by decide)
    have hai : a ≠ it := fun z => by
      obtain ⟨o, g1, g2, _⟩ := p
      obtain ⟨o', k1, k2, _⟩ := hit
      rw [z, k1] at g1
      cases g1
      rw [k2] at g2
      exact absurd g2 (by decide)
    have hl := rv.length
    have D := Draws.tuple (prog := X.prog) (w := X.w) (A := X.A.in1) (I.ok.hd hc) it a hai its.toArray
    refine wpAny_pyNext_enum_itemD D he ⟨hit, p⟩ (by simp; omega) hne (by simp [hne, Ne.symm hae]) fun u h' tk hu ho hit' hT hsz hk => ?_
    obtain ⟨x, hx, ru⟩ : ∃ x, xs[i]? = some x ∧ RelV x u := by
      obtain ⟨u', hu', ru'⟩ := rv.get (List.getElem?_eq_getElem hi)
      have : its[i]? = some u := by simpa using hu
      rw [this] at hu'
      cases hu'
      exact ⟨_, List.getElem?_eq_getElem hi, ru'⟩
    refine ⟨_, rfl, wpAny_letOwnedTupleGo_enum (s := { s with heap := h', toks := tk + 1 }) ho fun h2 he' sb => ?_⟩
    have hT2 := (sb.2 _ (Nat.ne_of_gt hel)).trans hT
    have new : ObjOk X.prog X.w (upd H s.heap.objs.size (.tup [.int (i : Nat), x])) h2 s.heap.objs.size (.tup [.int (i : Nat), x]) :=
      ⟨by show 2 ≤ sizeLine; decide, [.int i tk, u], .cons ⟨_, rfl⟩ (.cons ru .nil), ⟨_, hT2, rfl, _, rfl⟩⟩
    have I1 : Inv X pins σ (upd H s.heap.objs.size (.tup [.int (i : Nat), x])) { s with heap := h2, toks := tk + 1 } :=
      I.turnedNew (ch := [e, it]) (fun b ob hb q => (sb.2 b (fun z => hb (by simp [z]))).trans (hk b ob (fun z => hb (by simp [z])) (fun z => hb (by simp [z])) q)) hf (Nat.le_refl _) new
    refine ⟨.ref s.heap.objs.size, _, I1, rfl, ⟨_, x, rfl, I.hok.fresh (Nat.le_refl _), rfl, hx⟩, ⟨⟨u, ?_⟩, hit'.1.at fun o q => (sb.2 it (Ne.symm hne)).trans q, hne⟩, fun b hb => ?_⟩
    · have e1 : ((i + 1 : Nat) : Int) = (i : Int) + 1 := by omega
      rw [e1]
      exact he'
    · have e' : b = e ∨ b = it := by simpa using hb
      have hb' : b < s.heap.objs.size := by
        rcases e' with rfl | rfl
        · exact hel
        · exact hil
      rw [upd_ne (Nat.ne_of_lt hb')]
      exact (hf b hb).1
  done := by
    intro X hP hw hK hc i pins s σ H E I hf st hg
    subst hP hw hK
    obtain ⟨⟨old, he⟩, hit, hne⟩ := st
    obtain ⟨hq, hi⟩ := hg
    obtain ⟨its, rv, p, hz⟩ := I.tuple hq
    obtain ⟨f0, f1, f2, f3, f4, f5⟩ := hf it (by simp)
    have hl := rv.length
    have hai : a ≠ it := fun z => by
      obtain ⟨o, g1, g2, _⟩ := p
      obtain ⟨o', k1, k2, _⟩ := hit
      rw [z, k1] at g1
      cases g1
      rw [k2] at g2
      exact absurd g2 (by decide)
    have D := Draws.tuple (prog := X.prog) (w := X.w) (A := X.A.in1) (I.ok.hd hc) it a hai its.toArray
    have hi' : i = its.toArray.size := by simp; omega
    refine wpAny_pyNext_enum_endD D he ⟨by rw [← hi']; exact hit, p⟩ fun h' eb => ⟨rfl, I.turned (t' := s.toks) (fun b o hb q => eb b o hb q) f0 f1 f3 f4 f5⟩
  self := fun A i s Q E st h => let ⟨⟨_, he⟩, _⟩ := st; wpAny_pyIter_enum he h
def iEnumT (K : PySem.W.Frag) (ta : TA) : TI := fun σ H R => ta σ H fun vs H1 => ∃ a xs, vs = [.ref a] ∧ SqT K H1 a xs ∧ R (IteT K a xs) H1
theorem pi_enumT {X : Cx} {e : Expr} {ta : TA} {p pos tpos : Pos} {elts : List Expr} {kz : Nat} (hg : Gl X "enumerate") (hm : X.mg "enumerate" = none) (ha : PA X [e] ta) (hs : starEach [e] X.env = [(false, eval e X.env)] := by rfl) :
    PI X (.Tuple elts kz tpos) (.Call (.Name "enumerate" p) [e] [] pos) (iEnumT X.K ta) := by
  refine ⟨fun pins s σ H R I h => ?_⟩
  refine PyProof.Rows.Call_ (ld_blt I hg hm PyProof.Rows.boot_enumerate (PyProof.Rows.callWith_type1 (thn (ha.run pos pins s σ H _ I h) fun us s1 ⟨vs, H1, I1, r1, q1⟩ => ?_) hs rfl))
  obtain ⟨a, xs, ex, hq, q⟩ := q1
  subst ex
  cases r1 with
  | cons r rr =>
    cases rr
    cases r
    obtain ⟨its, rv, p', hz⟩ := I1.tuple hq
    refine call_enum_tuple (show s1.heap.IsTuple a its.toArray from p') fun h' he hit hk => wpAny_pyIter_enum he ?_
    have I2 : Inv X pins σ H1 { s1 with heap := h' } := I1.kept (t' := s1.toks) hk
    refine ⟨s1.heap.objs.size + 1, [s1.heap.objs.size + 1, s1.heap.objs.size], _, _, H1, rfl, I2, turn_enumT a (s1.heap.objs.size + 1) s1.heap.objs.size, ⟨⟨.none, he⟩, hit, Nat.succ_ne_self _⟩, fun b hb => ?_, q⟩
    have e' : b = s1.heap.objs.size + 1 ∨ b = s1.heap.objs.size := by simpa using hb
    have hle : s1.heap.objs.size ≤ b := by
      rcases e' with rfl | rfl
      · exact Nat.le_succ _
      · exact Nat.le_refl _
    exact I1.fpOk hle (I1.hok.fresh hle)
/-- for i, x in enumerate(t): the word Pv by the turn -/
theorem for_enumT {K : PySem.W.Frag} {a : Addr} {xs : List V} {g : TG} {tb : TS} {D : Ends} {σ : L2.St} {H : Hp} (Pv : Nat → L2.St → Hp → Prop) (h0 : Pv 0 σ H) (hl : ∀ i σ H, Pv i σ H → SqT K H a xs)
    (hs : ∀ i x T σ H, xs[i]? = some x → Pv i σ H → H T = none → g (.ref T) σ (upd H T (.tup [.int (i : Nat), x])) fun σ2 H2 => tb { D with nx := Pv (i + 1), ct := Pv (i + 1), bk := D.nx } σ2 H2) (hd : ∀ σ H, Pv xs.length σ H → D.nx σ H) :
    ∃ W : Nat → Nat → L2.St → Hp → Prop, (∃ m, W 0 m σ H) ∧ ∀ i m σ H, W i m σ H → ((IteT K a xs).stop i H ∧ D.nx σ H) ∨ ((IteT K a xs).go i H ∧ ∃ N : L2.St → Hp → Prop, (∀ σ' H', N σ' H' → ∃ m', m' < m ∧ W (i + 1) m' σ' H') ∧
      ∀ x H', (IteT K a xs).yld i H x H' → g x σ H' fun σ2 H2 => tb { D with nx := N, ct := N, bk := D.nx } σ2 H2) := by
  refine ⟨fun i m σ H => m = xs.length - i ∧ i ≤ xs.length ∧ Pv i σ H, ⟨xs.length, rfl, Nat.zero_le _, h0⟩, ?_⟩
  rintro i m σ H ⟨rfl, hi, p⟩
  have q := hl i σ H p
  by_cases hlt : i < xs.length
  · refine .inr ⟨⟨q, hlt⟩, Pv (i + 1), fun σ' H' p' => ⟨xs.length - (i + 1), by omega, rfl, hlt, p'⟩, fun x H' y => ?_⟩
    obtain ⟨T, z, rfl, hT, rfl, hz⟩ := y
    exact hs i z T σ H hz p hT
  · obtain rfl : i = xs.length := by omega
    exact .inl ⟨⟨q, rfl⟩, hd σ H p⟩
end Sh
set_option Elab.async false
set_option linter.all false
set_option maxRecDepth 100000
set_option maxHeartbeats 2000000
/-! Rules: dict comprehensions whose keys are simplices (after the layer's rule for keys that are numbers and texts). -/
namespace Sh
open PySem L2

theorem set_dtT {X : Cx} {pins : List (Addr × Obj)} {σ : L2.St} {H : Hp} {s : Shared} {E : Value → Shared → Prop} {D : Addr} {kvs : SV} {k : Sx} {y v : V} {u r : Value} {Q : Unit → Shared → Prop} (hu : X.A.units + 64 < cLine) (I : Inv X pins σ H s) (hD : H D = some (.dT (km kvs))) (hz : kvs.length ≤ 1000000)
    (hk : IsS H y k) (ry : RelV y u) (rv : RelV v r) (h : ∀ s', Inv X pins σ (upd H D (.dT (km (putK kvs k v)))) s' → Q () s') : wpAny (model X.prog X.w) X.A (dictSet D u r) Q E s := by
  obtain ⟨b, rfl, hb⟩ := hk.key
  obtain rfl : u = .ref b := ry
  obtain ⟨z, hsm, xs, rel, dd⟩ := dt_of I.hok hD
  refine wpAny_dictSet_heap (knd := tupleKind (mixKind X.prog X.w)) (hsz := by rw [← Paired.length rel]; exact z) (by show X.A.units < cLine; omega) (key_of I.hok hb) dd fun h' dd' hs => h _ ?_
  obtain ⟨ob, es, ep, g1, g2, g3, g4, _, g5⟩ := dd'
  have kp := KT.put rel (kk k) hb rv
  rw [putK_km] at kp
  refine d_write I (by rw [hD]; exact True.intro) hs ⟨ob, g1⟩ ⟨?_, hsm, _, kp.keeps (fun c ys ec => by rw [upd_ne (ne_of ec hD (fun z => nomatch z))]; exact ec), ob, es, ep, g1, g2, g3, g4, g5⟩
  rw [km_len]
  exact Nat.le_trans (putK_length kvs k v) (Nat.le_trans (Nat.succ_le_succ hz) (by decide))

section
variable {X : Cx}
/-- {k: v for target in iter if ..}: D the new dict -/
def tDcT (wi : TI) (g : TG) (tt : TT) (tk tv : TE) (vs : List Nat) : TE := fun σ H Q => wi σ H fun J H1 => ∀ D, H1 D = none → ∃ W : Nat → Nat → Hp → Prop, (∃ m, W 0 m (upd H1 D (.dT []))) ∧ ∀ i m H, W i m H →
  (J.stop i H ∧ Q (.ref D) H) ∨ (J.go i H ∧ ∃ Nx : Hp → Prop, (∀ H', Nx H' → ∃ m', m' < m ∧ W (i + 1) m' H') ∧ ∀ x H', J.yld i H x H' → g x (wipe σ vs) H' fun σ2 H2 => wipe σ2 vs = wipe σ vs ∧ tt σ2 H2 fun b H3 =>
    if b = true then tk σ2 H3 fun y H4 => tv σ2 H4 fun z H5 => ∃ kvs k, IsS H5 y k ∧ H5 D = some (.dT (km kvs)) ∧ kvs.length ≤ 1000000 ∧ Nx (upd H5 D (.dT (km (putK kvs k z)))) else Nx H3)
theorem dcT_core {pins : List (Addr × Obj)} {s : Shared} {σ : L2.St} {H : Hp} {Q : VK} {kx vx tg iter : Expr} {ifs : List Expr} {scope : Scope} {own : List (Str × Nat)} {pos pos' : Pos} {wi : TI} {g : TG} {tt : TT} {tk tv : TE} {use : Option (Value → Sem Unit)} {Qf : Value → Shared → Prop}
    (hu : X.A.units + 64 < cLine) (hc : X.calm = true) (hN : X.N.Nodup) (I : Inv X pins σ H s) (hi : PI X tg iter wi) (ok : BlkOk X.N X.env.scope scope own)
    (hg : ∀ (s : Shared) (H : Hp) (C : Addr) (cl : List (Str × Addr)) (fp : List Addr), PG (X.blk s H scope (compEnvC scope cl C X.env) fp) tg g) (ht : ∀ (s : Shared) (H : Hp) (C : Addr) (cl : List (Str × Addr)) (fp : List Addr), PTs (X.blk s H scope (compEnvC scope cl C X.env) fp) ifs tt)
    (hk : ∀ (s : Shared) (H : Hp) (C : Addr) (cl : List (Str × Addr)) (fp : List Addr), PE (X.blk s H scope (compEnvC scope cl C X.env) fp) kx tk)
    (he : ∀ (s : Shared) (H : Hp) (C : Addr) (cl : List (Str × Addr)) (fp : List Addr), PE (X.blk s H scope (compEnvC scope cl C X.env) fp) vx tv) (hs : ∀ x, foldedSetIterable iter X.env x = pure x)
    (h : tDcT wi g tt tk tv (own.map (·.2)) σ H Q)
    (hRR : ∀ D C s' m H', Inv X pins σ H' s' → Q (.ref D) H' → s'.heap.Ns C m → FpOk X pins H' C → compPost (model X.prog X.w) X.A X.xe use Qf (.ref D) C (.ok .next) s') :
    wpAny (model X.prog X.w) X.A (comprehension (.DictComp kx vx [⟨tg, iter, ifs, 0⟩] scope pos) scope X.env pos' newDict false (eval iter X.env) use) Qf X.xe s := by
  have frees : ∀ y ∈ scope.names, y.2 = .free → ∃ c, X.env.cells.lookup y.1 = some c := fun y hy e => (ok.free y hy e).elim (fun k => I.ok.has _ (.inl k)) fun k => I.ok.has _ (.inr k)
  refine wpAny_comprehension_free (use := use) rfl hs (closure_ok frees) ok.kind (fun y hy e => by rw [ok.uniq y hy, e])
    (thn (hi.run pins s σ H _ I h) fun xv s1 hx => thn hx fun itv s2 h2 => ?_)
  obtain ⟨it, fp, tn, J, H2, rfl, I2, T, st2, f2, q⟩ := h2
  refine wpAny_newObj_type (newEnv_comp ?_)
  generalize eD : s2.heap.objs.size = D
  have nD : H2 D = none := I2.hok.fresh (Nat.le_of_eq eD)
  obtain ⟨W, ⟨m0, w0⟩, turn⟩ := q D nD
  generalize e3 : ({ s2 with heap := s2.heap.push { cls := .type "dict", data := .dict #[] } } : Shared) = s3
  have h3 : s3.heap = s2.heap.push { cls := .type "dict", data := .dict #[] } := by rw [← e3]
  have I3 : Inv X pins σ (upd H2 D (.dT [])) s3 := by
    rw [← e3]
    refine I2.laid (t' := s2.toks) (fun b o e => Heap.get?_push_of_some _ e) (Nat.le_of_eq eD) ?_
    rw [← eD]
    exact dt_empty s2.heap I2.big
  have old : ∀ b ∈ fp, b < s2.heap.objs.size := fun b hb => let ⟨o, e, _⟩ := T.obj _ _ st2 b hb; Heap.lt_size e
  have f3 : ∀ b ∈ fp, FpOk X pins (upd H2 D (.dT [])) b ∧ b < s3.heap.objs.size := fun b hb => by
    have hlt := old b hb
    refine ⟨⟨?_, (f2 b hb).2⟩, by rw [h3, Heap.size_push]; exact Nat.lt_succ_of_lt hlt⟩
    rw [upd_ne (by rw [← eD]; exact Nat.ne_of_lt hlt)]
    exact (f2 b hb).1
  have st3 : tn 0 s3.heap := T.keep _ _ _ st2 fun b _ o e => by rw [h3]; exact Heap.get?_push_of_some _ e
  have I4 := block_start I3 ok hN f3
  have pg := hg s3 (upd H2 D (.dT [])) s3.heap.objs.size (cellsFrom (s3.heap.objs.size + 1) scope.names (cloFrom X.env.cells scope.names [])) fp
  have pt := ht s3 (upd H2 D (.dT [])) s3.heap.objs.size (cellsFrom (s3.heap.objs.size + 1) scope.names (cloFrom X.env.cells scope.names [])) fp
  have pk := hk s3 (upd H2 D (.dT [])) s3.heap.objs.size (cellsFrom (s3.heap.objs.size + 1) scope.names (cloFrom X.env.cells scope.names [])) fp
  have pv' := he s3 (upd H2 D (.dT [])) s3.heap.objs.size (cellsFrom (s3.heap.objs.size + 1) scope.names (cloFrom X.env.cells scope.names [])) fp
  show codeAny _ _ (.compStart (.DictComp kx vx [⟨tg, iter, ifs, 0⟩] scope pos) 0 (.ref it) (.ref D) (compEnvC scope (cellsFrom (s3.heap.objs.size + 1) scope.names (cloFrom X.env.cells scope.names [])) s3.heap.objs.size X.env)) (compPost (model X.prog X.w) X.A X.xe use Qf (.ref D) s3.heap.objs.size) { s3 with heap := pushCells (s3.heap.push { cls := .type "dict", data := .dict #[] }) scope.names }
  have nfp : ∀ b ∈ fp, (upd H2 D (.dT [])) b = none := fun b hb => (f3 b hb).1.1
  generalize ece : compEnvC scope (cellsFrom (s3.heap.objs.size + 1) scope.names (cloFrom X.env.cells scope.names [])) s3.heap.objs.size X.env = ce at I4 pg pt pk pv' ⊢
  have cL : ce.locals = s3.heap.objs.size := by subst ece; rfl
  generalize eH3 : upd H2 D (.dT []) = H3 at I3 I4 pg pt pk pv' w0 nfp f3
  generalize e4 : ({ s3 with heap := pushCells (s3.heap.push { cls := .type "dict", data := .dict #[] }) scope.names } : Shared) = s4 at I4 ⊢
  have st4 : tn 0 s4.heap := T.keep _ _ _ st3 fun b _ o e => by rw [← e4]; exact pushCells_keeps _ _ _ _ (Heap.get?_push_of_some _ e)
  have stat : ∀ {σ' : L2.St} {H' : Hp} {s' : Shared}, Inv (X.blk s3 H3 scope ce fp) [] σ' H' s' → (∀ b ∈ fp, H' b = none) → ∀ b ∈ fp, FpOk (X.blk s3 H3 scope ce fp) [] H' b := fun {σ' H' s'} I' hn b hb =>
    ⟨hn b hb, (I'.ok.exf b hb).1, I'.ok.exfs b hb, .inl hb, fun x c e => (I'.ok.exf b hb).2 x c e, fun p hp => absurd (show p ∈ ([] : List (Addr × Obj)) ++ [] from hp) (by simp)⟩
  have loop : codeAny (model X.prog X.w) X.A (.compLoop (.DictComp kx vx [⟨tg, iter, ifs, 0⟩] scope pos) 0 (.ref it) (.ref D) ce) (compPost (model X.prog X.w) X.A X.xe use Qf (.ref D) s3.heap.objs.size) s4 := by
    refine compLoop_anyD (fun n s' => ∃ i H', Inv (X.blk s3 H3 scope ce fp) [] (wipe σ (own.map (·.2))) H' s' ∧ tn i s'.heap ∧ (∀ b ∈ fp, H' b = none) ∧ W i n H') ?_ m0 ⟨0, H3, I4, st4, nfp, w0⟩
    rintro n s5 ⟨i, H5, I5, st5, n5, w5⟩
    rcases turn i n H5 w5 with ⟨stop, qq⟩ | ⟨go, Nx, hNx, step⟩
    · refine thnF (T.done (X.blk s3 H3 scope ce fp) rfl rfl rfl hc i [] s5 _ H5 (fun _ _ => False) I5 (stat I5 n5) st5 stop) fun r s6 ⟨hr, I6⟩ => ?_
      subst hr
      have I7 : Inv X pins σ H5 s6 := I3.call' (ch := fp) I6.os I6.base I6.hok I6.bare fun b hb => ⟨(f3 b hb).1.2.2.2.1, (f3 b hb).1.2.1, (f3 b hb).1.2.2.2.2.1, (f3 b hb).1.2.2.2.2.2⟩
      have nC : H5 s3.heap.objs.size = none := by
        have z : H5 ce.locals = none := I6.free
        rw [cL] at z
        exact z
      obtain ⟨m, hn, _⟩ := I6.loc
      have hn : s6.heap.Ns ce.locals m := hn
      rw [cL] at hn
      exact hRR D s3.heap.objs.size s6 m H5 I7 qq hn (I3.fpOk (Nat.le_refl _) nC)
    · refine thnF (T.item (X.blk s3 H3 scope ce fp) rfl rfl rfl hc i [] s5 _ H5 (fun _ _ => False) I5 (stat I5 n5) st5 go) fun r s6 ⟨u, hr, h6⟩ => ?_
      subst hr
      refine thnF h6 fun _ s7 ⟨x, H7, I7, r7, y7, st7, n7⟩ => ?_
      refine thnF (pg.run _ s7 _ H7 x u _ (I7.pinned (stat I7 n7) (T.obj _ _ st7)) r7 (step x H7 y7)) fun _ s8 ⟨σ8, H8, I8, hw8, q8⟩ => ?_
      refine thnF (pt.run _ s8 σ8 H8 _ I8 q8) fun b s9 ⟨H9, I9, q9⟩ => ?_
      have fin : ∀ {s' : Shared} {H' : Hp}, Inv (X.blk s3 H3 scope ce fp) ([] ++ pinsAt fp s7.heap) σ8 H' s' → Nx H' → ∃ m, m < n ∧ ∃ i H', Inv (X.blk s3 H3 scope ce fp) [] (wipe σ (own.map (·.2))) H' s' ∧ tn i s'.heap ∧ (∀ b ∈ fp, H' b = none) ∧ W i m H' := fun {s' H'} I' nx => by
        obtain ⟨m', hm, w'⟩ := hNx H' nx
        have pin' : ∀ b ∈ fp, ∀ o, s7.heap.get? b = some o → s'.heap.get? b = some o ∧ H' b = none := fun b hb o e =>
          let z := I'.pin (b, o) (List.mem_append_right _ (List.mem_append_right _ (mem_pinsAt hb e)))
          ⟨z.1, z.2.1⟩
        have hl : (wipe σ (own.map (·.2))).length = σ8.length := by rw [← hw8, wipe_length]
        refine ⟨m', hm, i + 1, H', (I'.unpinned (pins := [])).weak hl (fun j v e => ?_), T.keep _ _ _ st7 fun b hb o e => (pin' b hb o e).1, fun b hb => ?_, w'⟩
        · rw [← hw8] at e
          exact (wipe_some e).1
        · obtain ⟨o, e, _⟩ := T.obj _ _ st7 b hb
          exact (pin' b hb o e).2
      cases b with
      | false =>
        simp only [Bool.false_eq_true, if_false] at q9 ⊢
        exact fin I9 q9
      | true =>
        simp only [if_true] at q9 ⊢
        refine thnF (pk.run _ s9 σ8 H9 _ I9 q9) fun z s10 ⟨yk, H10, I10, r10, q10⟩ => ?_
        refine thnF (pv'.run _ s10 σ8 H10 _ I10 q10) fun z2 s11 ⟨yv, H11, I11, r11, kvs, k, hk11, hD11, hz11, nx⟩ => ?_
        have ks : IsS H11 yk k := hk11
        exact set_dtT (X := X.blk s3 H3 scope ce fp) hu I11 hD11 hz11 ks r10 r11 fun s12 I12 => fin I12 nx
  exact codeAny_compStart_dict loop (T.self X.A 0 _ _ _ st4 loop)
theorem pe_dcT {kx vx tg iter : Expr} {ifs : List Expr} {scope : Scope} {own : List (Str × Nat)} {pos : Pos} {wi : TI} {g : TG} {tt : TT} {tk tv : TE} (hu : X.A.units + 64 < cLine) (hc : X.calm = true) (hN : X.N.Nodup) (hi : PI X tg iter wi) (ok : BlkOk X.N X.env.scope scope own)
    (hg : ∀ (s : Shared) (H : Hp) (C : Addr) (cl : List (Str × Addr)) (fp : List Addr), PG (X.blk s H scope (compEnvC scope cl C X.env) fp) tg g) (ht : ∀ (s : Shared) (H : Hp) (C : Addr) (cl : List (Str × Addr)) (fp : List Addr), PTs (X.blk s H scope (compEnvC scope cl C X.env) fp) ifs tt)
    (hk : ∀ (s : Shared) (H : Hp) (C : Addr) (cl : List (Str × Addr)) (fp : List Addr), PE (X.blk s H scope (compEnvC scope cl C X.env) fp) kx tk)
    (he : ∀ (s : Shared) (H : Hp) (C : Addr) (cl : List (Str × Addr)) (fp : List Addr), PE (X.blk s H scope (compEnvC scope cl C X.env) fp) vx tv) (hs : ∀ x, foldedSetIterable iter X.env x = pure x := by intro _; rfl) :
    PE X (.DictComp kx vx [⟨tg, iter, ifs, 0⟩] scope pos) (tDcT wi g tt tk tv (own.map (·.2))) := by
  refine ⟨fun pins s σ H Q I h => ?_⟩
  rw [arm_eval_DictComp]
  refine dcT_core hu hc hN I hi ok hg ht hk he hs h fun D C s' m H' I' q hn f => ⟨m, hn, fun h'' sb => ?_⟩
  obtain ⟨f0, f1, f2, f3, f4, f5⟩ := f
  exact ⟨.ref D, H', I'.turned (t' := s'.toks) (fun b o hb e => (sb.2 b hb).trans e) f0 f1 f3 f4 f5, rfl, q⟩
/-- name = {..} on one line, the name a local -/
theorem ps_setDcT {i : Nat} {y : Str} {py : Pos} {kx vx tg iter : Expr} {ifs : List Expr} {scope : Scope} {own : List (Str × Nat)} {pos spos : Pos} {wi : TI} {g : TG} {tt : TT} {tk tv : TE} (hu : X.A.units + 64 < cLine) (hc : X.calm = true) (hN : X.N.Nodup) (hy : X.N[i]? = some y) (hyl : X.env.scope.names.lookup y = some .local)
    (hsw : swapsWith (.DictComp kx vx [⟨tg, iter, ifs, 0⟩] scope pos) (some (.Name y py)) spos.line X.env = pure true) (hi : PI X tg iter wi) (ok : BlkOk X.N X.env.scope scope own)
    (hg : ∀ (s : Shared) (H : Hp) (C : Addr) (cl : List (Str × Addr)) (fp : List Addr), PG (X.blk s H scope (compEnvC scope cl C X.env) fp) tg g) (ht : ∀ (s : Shared) (H : Hp) (C : Addr) (cl : List (Str × Addr)) (fp : List Addr), PTs (X.blk s H scope (compEnvC scope cl C X.env) fp) ifs tt)
    (hk : ∀ (s : Shared) (H : Hp) (C : Addr) (cl : List (Str × Addr)) (fp : List Addr), PE (X.blk s H scope (compEnvC scope cl C X.env) fp) kx tk)
    (he : ∀ (s : Shared) (H : Hp) (C : Addr) (cl : List (Str × Addr)) (fp : List Addr), PE (X.blk s H scope (compEnvC scope cl C X.env) fp) vx tv) (hs : ∀ x, foldedSetIterable iter X.env x = pure x := by intro _; rfl) :
    PS X (.Assign [.Name y py] (.DictComp kx vx [⟨tg, iter, ifs, 0⟩] scope pos) spos) (tAsg (tDcT wi g tt tk tv (own.map (·.2))) (gName i)) := by
  refine ⟨fun pins s σ H D I h => ?_⟩
  rw [exec_Assign_Name_used _ _ _ _ hsw]
  refine wpAny_bind (wpAny_standAt (wpAny_bind ?_))
  show wpAny _ X.A (do let _ ← comprehension (.DictComp kx vx [⟨tg, iter, ifs, 0⟩] scope pos) scope X.env (firstIterPos [⟨tg, iter, ifs, 0⟩] pos) newDict false (eval iter X.env) (some (assign (.Name y py) X.env))) _ _ s
  have h : tDcT wi g tt tk tv (own.map (·.2)) σ H (fun x H1 => gName i x σ H1 D.nx) := h
  refine wpAny_bind (thn (dcT_core (Qf := fun _ s' => SP X pins D .next s') hu hc hN I hi ok hg ht hk he hs h fun L C s' m H' I' q hn f => ?_) fun _ s' hq => wpAny_pure (wpAny_pure hq))
  show wpAny _ _ (assign (.Name y py) X.env (.ref L)) _ _ _
  refine wpAny_assign_Name (store_ok2 (v := V.ref L) I' hN hy (.inl hyl) rfl (fun s2 I2 ⟨a, sb, ha⟩ => ?_) (.inr hyl))
  obtain ⟨f0, f1, f2, f3, f4, f5⟩ := f
  have haC : C ≠ a := by
    rcases ha with z | z
    · rw [z]
      exact f1
    · exact fun e => f4 y a z e.symm
  refine ⟨m, hn.sameBut sb haC, fun h3 sb3 => ?_⟩
  exact ⟨_, H', I2.turned (t' := s2.toks) (fun b o hb e => (sb3.2 b hb).trans e) f0 f1 f3 f4 f5, q⟩
theorem sw_dict {kx vx : Expr} {gs : List Comprehension} {scope : Scope} {pos py : Pos} {y : Str} {l : Nat} {env : Env} (hk : env.scope.kind = .function) (hy : env.scope.names.lookup y = some .local) (hl : (py.line == pos.line) = true)
    (ha : (scope.names.any fun (n, k) => n == y && (k == .local || k == .cell)) = false) : swapsWith (.DictComp kx vx gs scope pos) (some (.Name y py)) l env = pure true := by
  have ky : env.kindOf y = some .local := hy
  have hb : env.blockKind = .function := by
    unfold Env.blockKind
    rw [hk]
    rfl
  unfold swapsWith
  simp only [hb, ky, ha, Expr.pos, hl]
  rfl
end
end Sh
set_option Elab.async false
set_option linter.all false
set_option maxRecDepth 100000
set_option maxHeartbeats 2000000
/-! The text by places, what its top leaves, calls of its defs, isinstance, raising. -/
namespace Sh
open PySem PySem.Spec PyProof.Rows L2
abbrev prog : Program := PySem.Challenge.pw_shapeholes_k95_whole_matchings
def top (i : Nat) : Stmt := prog.main.body.getD i (.Pass ⟨0, 0, 0, 0⟩)
abbrev sInit : Stmt := inClass (top 20) 0

/-! ### defs -/
/-- a def of the module's top -/
structure Df (K : PySem.W.Frag) (mg : Str → Option Value) (x : Str) (st : Stmt) (ps : List Str) : Prop where
  ex : ∃ (f : Addr) (fd : FuncData), Fun K x x st f fd ∧ mg x = some (.ref f) ∧ Binds K fd ps []
/-- a def that may be called by its name, its promise -/
structure Cal (P : Program) (w : World) (K : PySem.W.Frag) (mg : Str → Option Value) (base : Heap) (CX : CXT) (k : Nat) (x : Str) (sp : Sp) : Prop where
  ex : ∃ (f : Addr) (fd : FuncData) (ps : List Str), FnOk P w K mg base CX k f fd ps sp ∧ mg x = some (.ref f) ∧ PySem.W.keepIn K (.ref f) = true ∧ Binds K fd ps []
section
variable {P : Program} {w : World} {K : PySem.W.Frag} {mg : Str → Option Value} {base : Heap}
/-- a def that raises nothing keeps its promise -/
theorem Df.cal {x : Str} {st : Stmt} {ps N : List Str} {k : Nat} {sp : Sp} (D : Df K mg x st ps) (S : FnScope N ps (defScope st)) (len : ∀ vs H Q E, sp vs H Q E → vs.length = ps.length)
    (hbody : ∀ (f : Addr) (cdv : Value) (A : Around) (outer : List Env) (s : Shared) (H : Hp) (vs : List V) (Q : VK) (E : XK), Room k (A.deeper (envOfC x (defScope st) s.heap.objs.size f cdv)) → sp vs H Q E →
      ∃ t, PSs (cxOf CX0 P w K mg base N x (defScope st) f cdv A outer s H E).nox (defBody st) t ∧ t { nx := fun _ H' => Q .non H', rt := Q } (start N vs) H) : Cal P w K mg base CX0 (k + 1) x sp := by
  obtain ⟨f, fd, F, hm, b⟩ := D.ex
  exact ⟨f, fd, ps, F.ok S len (hbody f), hm, F.kp, b⟩
theorem Df.calX {x : Str} {st : Stmt} {ps N : List Str} {k : Nat} {sp : Sp} (D : Df K mg x st ps) (S : FnScope N ps (defScope st)) (len : ∀ vs H Q E, sp vs H Q E → vs.length = ps.length)
    (hbody : ∀ (f : Addr) (cdv : Value) (A : Around) (outer : List Env) (s : Shared) (H : Hp) (vs : List V) (Q : VK) (E : XK), Room k (A.deeper (envOfC x (defScope st) s.heap.objs.size f cdv)) → sp vs H Q E →
      ∃ t, PSs (cxOf (L2.CX P w) P w K mg base N x (defScope st) f cdv A outer s H E) (defBody st) t ∧ t { nx := fun _ H' => Q .non H', rt := Q } (start N vs) H) : Cal P w K mg base (L2.CX P w) (k + 1) x sp := by
  obtain ⟨f, fd, F, hm, b⟩ := D.ex
  exact ⟨f, fd, ps, F.okX S len (hbody f), hm, F.kp, b⟩
end
section
variable {X : Cx} {k j : Nat} {x : Str} {sp : Sp} {CX : CXT} {E : XK} {p pos : Pos} {e : Expr} {es : List Expr} {t : TA}
theorem pe_c (c : Cal X.prog X.w X.K X.mg X.base CX k x sp) (hr : Room j X.A) (hk : k ≤ j) (hx : Passes CX X E) (ha : PA X (e :: es) t) (hg : Gl X x := by rfl)
    (hdb : (x == ("__debug__" : Str)) = false := by decide) (he : starEach (e :: es) X.env = (false, eval e X.env) :: starEach es X.env := by rfl) (hpl : (backTo pos (starEach es X.env)).any (·.1) = false := by rfl) :
    PE X (.Call (.Name x p) (e :: es) [] pos) (tCall sp [] E t) := by
  obtain ⟨f, fd, ps, F, hm, kp, b⟩ := c.ex
  exact pe_call F (hr.mono hk) hg hm kp b .nil hx ha hdb he hpl
theorem pe_cS {ES : L2.St → XK} (c : Cal X.prog X.w X.K X.mg X.base CX k x sp) (hr : Room j X.A) (hk : k ≤ j) (hx : ∀ σ, PassesAt CX X σ (ES σ)) (ha : PA X (e :: es) t) (hg : Gl X x := by rfl)
    (hdb : (x == ("__debug__" : Str)) = false := by decide) (he : starEach (e :: es) X.env = (false, eval e X.env) :: starEach es X.env := by rfl) (hpl : (backTo pos (starEach es X.env)).any (·.1) = false := by rfl) :
    PE X (.Call (.Name x p) (e :: es) [] pos) (tCallS sp ES t) := by
  obtain ⟨f, fd, ps, F, hm, kp, b⟩ := c.ex
  exact pe_callS F (hr.mono hk) hg hm kp b hx ha hdb he hpl
/-- a promise that is weaker at the call -/
theorem Cal.imp {P : Program} {w : World} {K : PySem.W.Frag} {mg : Str → Option Value} {base : Heap} {sp' : Sp} (c : Cal P w K mg base CX k x sp) (h : ∀ vs H Q E, sp' vs H Q E → sp vs H Q E) : Cal P w K mg base CX k x sp' := by
  obtain ⟨f, fd, ps, F, hm, kp, b⟩ := c.ex
  exact ⟨f, fd, ps, F.imp h, hm, kp, b⟩

/-! ### isinstance -/
theorem pe_ty (n : String) {x : Str} {pos : Pos} (hm : X.mg x = none) (hv : bootBuiltins x = some (.type n) := by decide +kernel) (hg : Gl X x := by rfl) (hn : x ≠ "__name__" := by decide) (hd : (x == ("__debug__" : Str)) = false := by decide) : PE X (.Name x pos) (tC (.ty n)) :=
  pe_bltn hg hm hv rfl hn hd
/-- isinstance(x, T), T a built-in class -/
def rIs (K : PySem.W.Frag) : List V → Hp → VK → Prop := fun xs H Q => ∃ (x : V) (t : Value) (n : String) (b : Bool), xs = [x, .ty n] ∧ TyX K H x t ∧ PySem.W.kitOne K t (.type n) = some b ∧ Q (.bl b) H
theorem call_is : CallR X (.builtin "isinstance") (rIs X.K) := by
  intro pins s σ H xs us Q I r h
  obtain ⟨x, t, n, b, rfl, ty, e, q⟩ := h
  exact call_isi pins s σ H _ us Q I r ⟨x, _, t, _, b, rfl, .ty n, ty, e, q⟩
/-- isinstance(x, C), C an own class -/
def rIsO (K : PySem.W.Frag) : List V → Hp → VK → Prop := fun xs H Q => ∃ (x : V) (t : Value) (C : Addr) (b : Bool), xs = [x, .ref C] ∧ TyX K H x t ∧ PySem.W.kitOne K t (.ref C) = some b ∧ Q (.bl b) H
theorem call_isO : CallR X (.builtin "isinstance") (rIsO X.K) := by
  intro pins s σ H xs us Q I r h
  obtain ⟨x, t, C, b, rfl, ty, e, q⟩ := h
  exact call_isi pins s σ H _ us Q I r ⟨x, _, t, _, b, rfl, .own C, ty, e, q⟩
theorem ty_tup {K : PySem.W.Frag} {H : Hp} {v : V} {vs : List V} (h : IsT H v vs) : TyX K H v (.type "tuple") := by
  obtain ⟨a, rfl, h | ⟨o, h⟩⟩ := h
  · exact .base (.tup h)
  · exact .fTuple h
theorem ty_int {K : PySem.W.Frag} {H : Hp} (i : Int) : TyX K H (.int i) (.type "int") := .base (.int i)
theorem ty_bl {K : PySem.W.Frag} {H : Hp} (b : Bool) : TyX K H (.bl b) (.type "bool") := .base (.bl b)
theorem ty_str {K : PySem.W.Frag} {H : Hp} (b : Str) : TyX K H (.str b) (.type "str") := .base (.str b)
theorem ty_non {K : PySem.W.Frag} {H : Hp} : TyX K H .non (.type "NoneType") := .base .non
theorem ty_lst {K : PySem.W.Frag} {H : Hp} {a : Addr} {xs : List V} (h : H a = some (.lst xs)) : TyX K H (.ref a) (.type "list") := .base (.lst h)

/-! ### raising -/
/-- X(), X an own exception class without own __init__ -/
theorem pmk_own0 {C : Addr} {bmB : List Value} {B newId initId : String} {x : Str} {p pos : Pos} (F : ExcBaseFacts B newId initId bmB) (q : PySem.W.excIn X.K C bmB newId = true) (gC : X.mg x = some (.ref C))
    (kC : PySem.W.keepIn X.K (.ref C) = true) (r : Raises X (.ref C)) (hg : Gl X x := by rfl) (hdb : (x == ("__debug__" : Str)) = false := by decide) : PMk X (.Call (.Name x p) [] [] pos) (fun σ H Q => Q (.ref C) none H) := by
  intro pins s σ H Q I h
  refine wpAny_Call_Name_kw (ld_glob I hg gC ?_ hdb)
  refine PySem.W.callWith_K0 I.kIn kC ?_
  show wpAny _ _ (call (.ref C) []) _ _ _
  obtain ⟨bm, N, nm, qn, bs, hdct, sn, sub, ab, col, dd, k0, k1, k2, k3, k5, mN, hC, hN, hni, T⟩ := exc_obj I.kIn q
  refine wpAny_call_exc_subT F T hC hN hni (fun h' e hm => ?_) (Nat.zero_le _)
  exact mk_of I hm r h (I.hok.gone hm.new)
/-- isinstance(e, C) in the suite that holds the exception e -/
def rIsEx (K : PySem.W.Frag) (a : Addr) (cls : Value) (d : Option Addr) : List V → Hp → VK → Prop := fun xs H Q => ∃ (D C : Addr) (b : Bool), cls = .ref D ∧ d = none ∧ ExcC K D ∧ xs = [.ref a, .ref C] ∧ PySem.W.kitOne K (.ref D) (.ref C) = some b ∧ Q (.bl b) H
theorem call_isEx {a : Addr} {cls : Value} {d : Option Addr} {oe : Obj} {pn : List (Addr × Obj)} (hz : Zc cls d oe) (hf : ∃ vs, oe.data = .fields vs) : CallR (X.suite a ((a, oe) :: pn)) (.builtin "isinstance") (rIsEx X.K a cls d) := by
  intro pins s σ H xs us Q I r h
  obtain ⟨D, C, b, rfl, rfl, ec, rfl, e, q⟩ := h
  exact call_isE ec hz hf pins s σ H _ us Q I r ⟨.ref C, .ref C, b, rfl, fun u hu => hu, e, q⟩
end

/-! ### what the top leaves -/
structure Exc0 (K : PySem.W.Frag) (mg : Str → Option Value) (x : Str) (C : Addr) : Prop where
  mgC : mg x = some (.ref C)
  ex : PySem.W.excIn K C [.type "ValueError", .type "Exception", .type "BaseException", .type "object"] "ValueError.__new__" = true
  kp : PySem.W.keepIn K (.ref C) = true
  sb : PySem.W.subIn K (.ref C) (.type "BaseException") = some true
  ty : PySem.W.typeIn K (.ref C) = some (.type "type")
  c : ExcC K C
/-- the facts of the text that the walks use: C the class Complex, CS, CN, CB the error classes -/
structure Tx (K : PySem.W.Frag) (mg : Str → Option Value) (C CS CN CB : Addr) : Prop where
  n_isinstance : mg "isinstance" = none
  n_int : mg "int" = none
  n_bool : mg "bool" = none
  n_str : mg "str" = none
  n_tuple : mg "tuple" = none
  n_len : mg "len" = none
  n_all : mg "all" = none
  n_any : mg "any" = none
  n_zip : mg "zip" = none
  n_range : mg "range" = none
  n_enumerate : mg "enumerate" = none
  n_sorted : mg "sorted" = none
  n_max : mg "max" = none
  n_min : mg "min" = none
  n_dict : mg "dict" = none
  n_list : mg "list" = none
  n_set : mg "set" = none
  c_vertex : ∃ t, mg "MOST_VERTEX" = some (.int 30 t)
  c_length : ∃ t, mg "MOST_LENGTH" = some (.int 8 t)
  c_faces : ∃ t, mg "MOST_FACES" = some (.int 400 t)
  cl : Cls K C
  nF : NoAttr K C "faces"
  nT : NoAttr K C "tops"
  mgC : mg "Complex" = some (.ref C)
  ini : ∃ (f : Addr) (fd : FuncData), Mk K C f ∧ Fun K "__init__" "Complex.__init__" sInit f fd ∧ Binds K fd ["self", "simplices"] []
  iha : PySem.W.findIn K (.ref C) "__class__" = some (some (.builtin "object.__class__"))
  ihn : PySem.W.specialIn K (.builtin "object.__class__") "__get__" = some (some (.builtin "getset_descriptor.__get__"))
  iht : PySem.W.takesIn K (.builtin "object.__class__") = some true
  ihm : PySem.W.mroIn K C (.type "object") = some true
  kt : (PySem.W.clsIn K C).isSome = true ∧ PySem.W.typeIn K (.ref C) = some (.type "type")
  kNone : PySem.W.subIn K (.type "NoneType") (.ref C) = some false
  kInt : PySem.W.subIn K (.type "int") (.ref C) = some false
  kBool : PySem.W.subIn K (.type "bool") (.ref C) = some false
  kTup : PySem.W.subIn K (.type "tuple") (.ref C) = some false
  eN : Exc0 K mg "NotComplex" CN
  eB : Exc0 K mg "BadMatching" CB
  mgS : mg "ShapeError" = some (.ref CS)
  sS : PySem.W.subIn K (.ref CS) (.type "BaseException") = some true
  tS : PySem.W.typeIn K (.ref CS) = some (.type "type")
  hS : PySem.W.hasDictIn K CS = true
  sNS : PySem.W.subIn K (.ref CN) (.ref CS) = some true
  sBS : PySem.W.subIn K (.ref CB) (.ref CS) = some true
  sNB : PySem.W.subIn K (.ref CN) (.ref CB) = some false
  hCB : (PySem.W.clsIn K CB).isSome = true
  ne : CN ≠ CB
  d_is_integer : Df K mg "is_integer" (top 1) ["value"]
  d_is_in : Df K mg "is_in" (top 2) ["value", "least", "most"]
  d_is_list : Df K mg "is_list" (top 3) ["value", "least", "most"]
  d_is_ascending : Df K mg "is_ascending" (top 15) ["value", "least", "most"]
  d_is_simplex : Df K mg "is_simplex" (top 16) ["value"]
  d_parts_of : Df K mg "parts_of" (top 17) ["simplex"]
  d_generated : Df K mg "generated" (top 18) ["simplices"]
  d_maximal : Df K mg "maximal" (top 19) ["faces"]
  d_need_complex : Df K mg "need_complex" (top 21) ["value"]
  d_made : Df K mg "made" (top 22) ["simplices"]
  d_counts_in : Df K mg "counts_in" (top 23) ["shape"]
  d_counts_of : Df K mg "counts_of" (top 24) ["shape"]
  d_is_pairing : Df K mg "is_pairing" (top 26) ["shape", "pairs"]
  d_has_ring : Df K mg "has_ring" (top 27) ["pairs"]
  d_is_loopless : Df K mg "is_loopless" (top 28) ["shape", "pairs"]
  d_critical_counts : Df K mg "critical_counts" (top 29) ["shape", "pairs"]
  d_holders_of : Df K mg "holders_of" (top 31) ["faces"]
  d_free_in : Df K mg "free_in" (top 32) ["faces"]
  d_without : Df K mg "without" (top 33) ["faces", "pair"]
  d_is_pair : Df K mg "is_pair" (top 34) ["value"]
  d_collapsed : Df K mg "collapsed" (top 35) ["shape", "steps"]
  d_collapse_fully : Df K mg "collapse_fully" (top 36) ["shape"]
  d_left_by : Df K mg "left_by" (top 37) ["shape"]
  d_taken : Df K mg "_law_taken" (top 39) ["_law_row", "_law_many"]
  d_pick : Df K mg "_law_pick" (top 40) ["_law_row", "_law_things"]
  d_alike : Df K mg "_law_alike" (top 41) ["_law_found", "_law_due"]
  d_simplex : Df K mg "_law_simplex" (top 42) ["_law_row", "_law_most", "_law_size"]
  d_simplices : Df K mg "_law_simplices" (top 43) ["_law_row", "_law_most", "_law_size"]
  d_faces : Df K mg "_law_faces" (top 44) ["_law_simplices_here"]
  d_at : Df K mg "_law_at" (top 45) ["_law_faces_here", "_law_degree"]
  d_wide : Df K mg "_law_wide" (top 46) ["_law_row", "_law_most", "_law_size"]
  d_matching : Df K mg "_law_matching" (top 47) ["_law_row", "_law_faces_here"]
  d_rings : Df K mg "_law_rings" (top 48) ["_law_pairs"]
  d_told : Df K mg "_law_told" (top 49) ["_law_shape", "_law_pairs"]
end Sh
set_option Elab.async false
set_option linter.all false
set_option maxRecDepth 100000
set_option maxHeartbeats 2000000
/-! Readings of comprehensions and loops over data. -/
namespace Sh
open PySem PySem.Spec PyProof.Rows L2

/-! ### what evaluates to what, whatever has been made besides -/
def EvB (tt : TT) (σ : L2.St) (H : Hp) (b : Bool) : Prop := ∀ H1, Ex H H1 → ∀ Q : Bool → Hp → Prop, (∀ H2, Ex H1 H2 → Q b H2) → tt σ H1 Q
def EvD (te : TE) (σ : L2.St) (H : Hp) (R : V → Hp → Prop) : Prop := ∀ H1, Ex H H1 → ∀ Q : VK, (∀ v H2, Ex H1 H2 → R v H2 → Q v H2) → te σ H1 Q
theorem evb_yes {σ : L2.St} {H : Hp} : EvB tYes σ H true := fun H1 _ _ q => q H1 (Ex.refl H1)
theorem EvB.is {tt : TT} {σ : L2.St} {H : Hp} {b c : Bool} (h : EvB tt σ H b) (e : b = c) : EvB tt σ H c := e ▸ h
theorem EvB.mono {tt : TT} {σ : L2.St} {H H' : Hp} {b : Bool} (e : Ex H H') (h : EvB tt σ H b) : EvB tt σ H' b := fun H1 a Q q => h H1 (e.trans a) Q q
theorem EvD.mono {te : TE} {σ : L2.St} {H H' : Hp} {R : V → Hp → Prop} (e : Ex H H') (h : EvD te σ H R) : EvD te σ H' R := fun H1 a Q q => h H1 (e.trans a) Q q

/-! ### comprehensions -/
def given {β : Type} (n : Nat) (f : Nat → Option β) : List β := (List.range n).filterMap f
theorem given_some {β : Type} {n : Nat} {f : Nat → Option β} {b : β} (h : f n = some b) : given (n + 1) f = given n f ++ [b] := by
  unfold given
  rw [List.range_succ, List.filterMap_append, List.filterMap_cons, h]
  rfl
theorem given_none {β : Type} {n : Nat} {f : Nat → Option β} (h : f n = none) : given (n + 1) f = given n f := by
  unfold given
  rw [List.range_succ, List.filterMap_append, List.filterMap_cons, h]
  exact List.append_nil _
theorem given_len {β : Type} (n : Nat) (f : Nat → Option β) : (given n f).length ≤ n := by
  unfold given
  have h := List.length_filterMap_le f (List.range n)
  rw [List.length_range] at h
  exact h
theorem given_list {α β : Type} (f : α → Option β) (bs : List α) : given bs.length (fun i => (bs[i]?).bind f) = bs.filterMap f := by
  have gen : ∀ n, n ≤ bs.length → given n (fun i => (bs[i]?).bind f) = (bs.take n).filterMap f := by
    intro n
    induction n with
    | zero => intro _; rfl
    | succ n ih =>
      intro hn
      have hlt : n < bs.length := hn
      have e : bs[n]? = some bs[n] := List.getElem?_eq_getElem hlt
      rw [List.take_succ, List.filterMap_append, ← ih (Nat.le_of_lt hlt), e]
      cases h : f bs[n] with
      | none =>
        rw [given_none (by rw [e]; exact h)]
        simp [h]
      | some c =>
        rw [given_some (by rw [e]; exact h)]
        simp [h]
  rw [gen _ (Nat.le_refl _), List.take_length]

section
variable {J : It} {g : TG} {tt : TT} {te : TE} {vs : List Nat} {σ : L2.St} {H1 : Hp} {D : Addr} {Qd : Hp → Prop}
/-- a comprehension over n turns of an iterator, what is made told as data -/
theorem lcJ {β : Type} (ky : Kd β) (n : Nat) (f : Nat → Option β) (hz : n ≤ 1000000) (hD : H1 D = none) (hgo : ∀ i H, i < n → Ex H1 H → J.go i H) (hstop : ∀ H, Ex H1 H → J.stop n H)
    (hs : ∀ i x H H', i < n → Ex H1 H → J.yld i H x H' → ∃ σ2 H2, Ex H H2 ∧ (∀ Q, Q σ2 H2 → g x (wipe σ vs) H' Q) ∧ wipe σ2 vs = wipe σ vs ∧ EvB tt σ2 H2 (f i).isSome ∧ ∀ b, f i = some b → EvD te σ2 H2 fun y H4 => ky.R H4 y b)
    (hd : ∀ H', Ex H1 H' → LsD ky H' (.ref D) (given n f) → Qd H') :
    ∃ W : Nat → Nat → Hp → Prop, (∃ m, W 0 m (upd H1 D (.lst []))) ∧ ∀ i m H, W i m H →
      (J.stop i H ∧ Qd H) ∨ (J.go i H ∧ ∃ Nx : Hp → Prop, (∀ H', Nx H' → ∃ m', m' < m ∧ W (i + 1) m' H') ∧ ∀ x H', J.yld i H x H' → g x (wipe σ vs) H' fun σ2 H2 => wipe σ2 vs = wipe σ vs ∧ tt σ2 H2 fun b H3 =>
        if b = true then te σ2 H3 fun y H4 => ∃ acc, H4 D = some (.lst acc) ∧ acc.length < sizeLine ∧ Nx (upd H4 D (.lst (acc ++ [y]))) else Nx H3) := by
  let Pv : Nat → Hp → Prop := fun i H => Ex H1 H ∧ ∃ ys, H D = some (.lst ys) ∧ Paired (ky.R H) ys (given i f)
  refine ⟨fun i m H => m = n - i ∧ i ≤ n ∧ Pv i H, ⟨n, rfl, Nat.zero_le _, Ex.new hD, [], upd_same, .nil⟩, ?_⟩
  rintro i m H ⟨rfl, hi, e, ys, hy, hp⟩
  by_cases hlt : i < n
  · refine .inr ⟨hgo i H hlt e, Pv (i + 1), fun H' p' => ⟨n - (i + 1), by omega, rfl, hlt, p'⟩, fun x H' hyl => ?_⟩
    obtain ⟨σ2, H2, e2, hg, hw, hB, hE⟩ := hs i x H H' hlt e hyl
    refine hg _ ⟨hw, hB H2 (Ex.refl H2) _ fun H3 e3 => ?_⟩
    cases hf : f i with
    | none =>
      refine iteF ⟨(e.trans e2).trans e3, ys, (e2.trans e3) _ _ hy, ?_⟩
      rw [given_none hf]
      exact pr_kmono ky (e2.trans e3).t hp
    | some b =>
      refine iteT (hE b hf H3 e3 _ fun y H4 e4 hR => ?_)
      have e24 : Ex H H4 := (e2.trans e3).trans e4
      have hy4 := e24 _ _ hy
      have hl := pr_len hp
      have hgl := given_len i f
      refine ⟨ys, hy4, sz5l (by omega), Ex.mut (e.trans e24) hD, ys ++ [y], upd_same, ?_⟩
      rw [given_some hf]
      exact pr_kmono ky (TEx.wrL hy4) (pr_snoc (pr_kmono ky e24.t hp) hR)
  · obtain rfl : i = n := by omega
    exact .inl ⟨hstop H e, hd H e ⟨D, ys, rfl, hy, hp⟩⟩
end

section
variable {K : PySem.W.Frag} {j : Nat} {tt : TT} {te : TE} {vs : List Nat} {σ : L2.St} {H1 : Hp} {D : Addr} {Qd : Hp → Prop} {α β : Type}
/-- over a tuple -/
theorem lcD_tup (hD : H1 D = none) (kx : Kd α) (ky : Kd β) {a : Addr} {xs : List V} {bs : List α} (f : α → Option β) (hx : Rd H1 a (.tup xs)) (hb : Paired (kx.R H1) xs bs) (hz : bs.length ≤ 1000000)
    (hw : ∀ x, wipe ((wipe σ vs).set j (some x)) vs = wipe σ vs)
    (ht : ∀ x b H, Ex H1 H → kx.R H x b → b ∈ bs → EvB tt ((wipe σ vs).set j (some x)) H (f b).isSome)
    (he : ∀ x b c H, Ex H1 H → kx.R H x b → b ∈ bs → f b = some c → EvD te ((wipe σ vs).set j (some x)) H fun y H' => ky.R H' y c)
    (k : ∀ H', Ex H1 H' → LsD ky H' (.ref D) (bs.filterMap f) → Qd H') :
    ∃ W : Nat → Nat → Hp → Prop, (∃ m, W 0 m (upd H1 D (.lst []))) ∧ ∀ i m H, W i m H →
      ((Itt K a).stop i H ∧ Qd H) ∨ ((Itt K a).go i H ∧ ∃ Nx : Hp → Prop, (∀ H', Nx H' → ∃ m', m' < m ∧ W (i + 1) m' H') ∧ ∀ x H', (Itt K a).yld i H x H' → gName j x (wipe σ vs) H' fun σ2 H2 => wipe σ2 vs = wipe σ vs ∧ tt σ2 H2 fun b H3 =>
        if b = true then te σ2 H3 fun y H4 => ∃ acc, H4 D = some (.lst acc) ∧ acc.length < sizeLine ∧ Nx (upd H4 D (.lst (acc ++ [y]))) else Nx H3) := by
  have hl := pr_len hb
  refine lcJ ky bs.length (fun i => (bs[i]?).bind f) hz hD (fun i H hi e => ?_) (fun H e => ?_) (fun i x H H' hi e hy => ?_) fun H' e h => k H' e (by rw [given_list] at h; exact h)
  · exact ⟨xs, _, SqT.rd (e.t.rd hx), List.getElem?_eq_getElem (by omega)⟩
  · exact ⟨xs, SqT.rd (e.t.rd hx), by omega⟩
  · obtain ⟨rfl, hx'⟩ := hy
    obtain ⟨b, hbi, hR⟩ := pr_get hb (hx' xs (SqT.rd (e.t.rd hx)))
    have hm := List.mem_of_getElem? hbi
    have hR' := kx.mono e.t hR
    refine ⟨_, H', Ex.refl _, fun _ q => q, hw x, ?_, fun c hc => ?_⟩
    · simp only [hbi, Option.bind_some]
      exact ht x b H' e hR' hm
    · simp only [hbi, Option.bind_some] at hc
      exact he x b c H' e hR' hm hc
/-- over a list that stays -/
theorem lcD_lst (hD : H1 D = none) (kx : Kd α) (ky : Kd β) {a : Addr} {xs : List V} {bs : List α} (f : α → Option β) (hx : H1 a = some (.lst xs)) (hb : Paired (kx.R H1) xs bs) (hz : bs.length ≤ 1000000)
    (hw : ∀ x, wipe ((wipe σ vs).set j (some x)) vs = wipe σ vs)
    (ht : ∀ x b H, Ex H1 H → kx.R H x b → b ∈ bs → EvB tt ((wipe σ vs).set j (some x)) H (f b).isSome)
    (he : ∀ x b c H, Ex H1 H → kx.R H x b → b ∈ bs → f b = some c → EvD te ((wipe σ vs).set j (some x)) H fun y H' => ky.R H' y c)
    (k : ∀ H', Ex H1 H' → LsD ky H' (.ref D) (bs.filterMap f) → Qd H') :
    ∃ W : Nat → Nat → Hp → Prop, (∃ m, W 0 m (upd H1 D (.lst []))) ∧ ∀ i m H, W i m H →
      ((Itl K a).stop i H ∧ Qd H) ∨ ((Itl K a).go i H ∧ ∃ Nx : Hp → Prop, (∀ H', Nx H' → ∃ m', m' < m ∧ W (i + 1) m' H') ∧ ∀ x H', (Itl K a).yld i H x H' → gName j x (wipe σ vs) H' fun σ2 H2 => wipe σ2 vs = wipe σ vs ∧ tt σ2 H2 fun b H3 =>
        if b = true then te σ2 H3 fun y H4 => ∃ acc, H4 D = some (.lst acc) ∧ acc.length < sizeLine ∧ Nx (upd H4 D (.lst (acc ++ [y]))) else Nx H3) := by
  have hl := pr_len hb
  refine lcJ ky bs.length (fun i => (bs[i]?).bind f) hz hD (fun i H hi e => ?_) (fun H e => ?_) (fun i x H H' hi e hy => ?_) fun H' e h => k H' e (by rw [given_list] at h; exact h)
  · exact ⟨xs, _, SqL.of (e _ _ hx), List.getElem?_eq_getElem (by omega)⟩
  · exact ⟨xs, SqL.of (e _ _ hx), by omega⟩
  · obtain ⟨rfl, hx'⟩ := hy
    obtain ⟨b, hbi, hR⟩ := pr_get hb (hx' xs (SqL.of (e _ _ hx)))
    have hm := List.mem_of_getElem? hbi
    have hR' := kx.mono e.t hR
    refine ⟨_, H', Ex.refl _, fun _ q => q, hw x, ?_, fun c hc => ?_⟩
    · simp only [hbi, Option.bind_some]
      exact ht x b H' e hR' hm
    · simp only [hbi, Option.bind_some] at hc
      exact he x b c H' e hR' hm hc
/-- over range(n) -/
theorem lcD_rng (hD : H1 D = none) (ky : Kd β) {n : Nat} (f : Nat → Option β) (hz : n ≤ 1000000)
    (hw : ∀ x, wipe ((wipe σ vs).set j (some x)) vs = wipe σ vs)
    (ht : ∀ i H, Ex H1 H → i < n → EvB tt ((wipe σ vs).set j (some (.int (i : Int)))) H (f i).isSome)
    (he : ∀ i c H, Ex H1 H → i < n → f i = some c → EvD te ((wipe σ vs).set j (some (.int (i : Int)))) H fun y H' => ky.R H' y c)
    (k : ∀ H', Ex H1 H' → LsD ky H' (.ref D) ((List.range n).filterMap f) → Qd H') :
    ∃ W : Nat → Nat → Hp → Prop, (∃ m, W 0 m (upd H1 D (.lst []))) ∧ ∀ i m H, W i m H →
      ((Itr 0 n).stop i H ∧ Qd H) ∨ ((Itr 0 n).go i H ∧ ∃ Nx : Hp → Prop, (∀ H', Nx H' → ∃ m', m' < m ∧ W (i + 1) m' H') ∧ ∀ x H', (Itr 0 n).yld i H x H' → gName j x (wipe σ vs) H' fun σ2 H2 => wipe σ2 vs = wipe σ vs ∧ tt σ2 H2 fun b H3 =>
        if b = true then te σ2 H3 fun y H4 => ∃ acc, H4 D = some (.lst acc) ∧ acc.length < sizeLine ∧ Nx (upd H4 D (.lst (acc ++ [y]))) else Nx H3) := by
  refine lcJ ky n f hz hD (fun i H hi e => hi) (fun H e => Nat.le_refl _) (fun i x H H' hi e hy => ?_) fun H' e h => k H' e h
  obtain ⟨rfl, rfl⟩ := hy
  have e0 : (0 : Int) + (i : Int) = (i : Int) := Int.zero_add _
  rw [e0]
  exact ⟨_, H', Ex.refl _, fun _ q => q, hw _, ht i H' e hi, fun c hc => he i c H' e hi hc⟩
/-- over the keys of a dict that is locked -/
theorem lcD_keys (hD : H1 D = none) (ky : Kd β) {d : Addr} {od : Obj} {kvs : SV} (f : Sx → Option β) (hd : H1 d = some (.frz od (.dT (km kvs)))) (hz : kvs.length ≤ 1000000)
    (hw : ∀ x, wipe ((wipe σ vs).set j (some x)) vs = wipe σ vs)
    (ht : ∀ x s H, Ex H1 H → IsS H x s → s ∈ kvs.map (·.1) → EvB tt ((wipe σ vs).set j (some x)) H (f s).isSome)
    (he : ∀ x s c H, Ex H1 H → IsS H x s → s ∈ kvs.map (·.1) → f s = some c → EvD te ((wipe σ vs).set j (some x)) H fun y H' => ky.R H' y c)
    (k : ∀ H', Ex H1 H' → LsD ky H' (.ref D) ((kvs.map (·.1)).filterMap f) → Qd H') :
    ∃ W : Nat → Nat → Hp → Prop, (∃ m, W 0 m (upd H1 D (.lst []))) ∧ ∀ i m H, W i m H →
      ((Itkt d od (km kvs)).stop i H ∧ Qd H) ∨ ((Itkt d od (km kvs)).go i H ∧ ∃ Nx : Hp → Prop, (∀ H', Nx H' → ∃ m', m' < m ∧ W (i + 1) m' H') ∧ ∀ x H', (Itkt d od (km kvs)).yld i H x H' → gName j x (wipe σ vs) H' fun σ2 H2 => wipe σ2 vs = wipe σ vs ∧ tt σ2 H2 fun b H3 =>
        if b = true then te σ2 H3 fun y H4 => ∃ acc, H4 D = some (.lst acc) ∧ acc.length < sizeLine ∧ Nx (upd H4 D (.lst (acc ++ [y]))) else Nx H3) := by
  have hl : (kvs.map (·.1)).length = kvs.length := List.length_map _
  refine lcJ ky (kvs.map (·.1)).length (fun i => ((kvs.map (·.1))[i]?).bind f) (by omega) hD (fun i H hi e => ?_) (fun H e => ?_) (fun i x H H' hi e hy => ?_) fun H' e h => k H' e (by rw [given_list] at h; exact h)
  · exact ⟨e _ _ hd, by rw [km_len]; omega⟩
  · exact ⟨e _ _ hd, by rw [km_len]; omega⟩
  · obtain ⟨rfl, kk', v, q, hk, rfl, hq⟩ := hy
    rw [km_get] at hk
    obtain ⟨p, hp, ep⟩ := Option.map_eq_some_iff.mp hk
    simp only [Prod.mk.injEq] at ep
    obtain ⟨rfl, rfl⟩ := ep
    have hbi : (kvs.map (·.1))[i]? = some p.1 := by rw [List.getElem?_map, hp]; rfl
    have hm := List.mem_of_getElem? hbi
    have hR := IsS.of_key hq
    refine ⟨_, H', Ex.refl _, fun _ q => q, hw _, ?_, fun c hc => ?_⟩
    · simp only [hbi, Option.bind_some]
      exact ht _ p.1 H' e hR hm
    · simp only [hbi, Option.bind_some] at hc
      exact he _ p.1 c H' e hR hm hc
end

/-! ### loops -/
section
variable {J : It} {g : TG} {tb : TS} {D : Ends} {σ : L2.St} {H : Hp}
theorem for_J (n : Nat) (Pv : Nat → L2.St → Hp → Prop) (h0 : Pv 0 σ H) (hgo : ∀ i σ H, i < n → Pv i σ H → J.go i H) (hstop : ∀ σ H, Pv n σ H → J.stop n H)
    (hs : ∀ i x σ H H', i < n → Pv i σ H → J.yld i H x H' → g x σ H' fun σ2 H2 => tb { D with nx := Pv (i + 1), ct := Pv (i + 1), bk := D.nx } σ2 H2) (hd : ∀ σ H, Pv n σ H → D.nx σ H) :
    ∃ W : Nat → Nat → L2.St → Hp → Prop, (∃ m, W 0 m σ H) ∧ ∀ i m σ H, W i m σ H → (J.stop i H ∧ D.nx σ H) ∨ (J.go i H ∧ ∃ N : L2.St → Hp → Prop, (∀ σ' H', N σ' H' → ∃ m', m' < m ∧ W (i + 1) m' σ' H') ∧
      ∀ x H', J.yld i H x H' → g x σ H' fun σ2 H2 => tb { D with nx := N, ct := N, bk := D.nx } σ2 H2) := by
  refine ⟨fun i m σ H => m = n - i ∧ i ≤ n ∧ Pv i σ H, ⟨n, rfl, Nat.zero_le _, h0⟩, ?_⟩
  rintro i m σ H ⟨rfl, hi, p⟩
  by_cases hlt : i < n
  · exact .inr ⟨hgo i σ H hlt p, Pv (i + 1), fun σ' H' p' => ⟨n - (i + 1), by omega, rfl, hlt, p'⟩, fun x H' y => hs i x σ H H' hlt p y⟩
  · obtain rfl : i = n := by omega
    exact .inl ⟨hstop σ H p, hd σ H p⟩
/-- over the keys of a dict that is locked -/
theorem for_keys {d : Addr} {od : Obj} {kvs : SV} (Pv : Nat → L2.St → Hp → Prop) (h0 : Pv 0 σ H) (hd : ∀ i σ H, Pv i σ H → H d = some (.frz od (.dT (km kvs))))
    (hs : ∀ i x s σ H, (kvs.map (·.1))[i]? = some s → IsS H x s → Pv i σ H → g x σ H fun σ2 H2 => tb { D with nx := Pv (i + 1), ct := Pv (i + 1), bk := D.nx } σ2 H2) (hn : ∀ σ H, Pv kvs.length σ H → D.nx σ H) :
    ∃ W : Nat → Nat → L2.St → Hp → Prop, (∃ m, W 0 m σ H) ∧ ∀ i m σ H, W i m σ H → ((Itkt d od (km kvs)).stop i H ∧ D.nx σ H) ∨ ((Itkt d od (km kvs)).go i H ∧ ∃ N : L2.St → Hp → Prop, (∀ σ' H', N σ' H' → ∃ m', m' < m ∧ W (i + 1) m' σ' H') ∧
      ∀ x H', (Itkt d od (km kvs)).yld i H x H' → g x σ H' fun σ2 H2 => tb { D with nx := N, ct := N, bk := D.nx } σ2 H2) := by
  refine for_J kvs.length Pv h0 (fun i σ H hi p => ⟨hd i σ H p, by rw [km_len]; exact hi⟩) (fun σ H p => ⟨hd _ σ H p, by rw [km_len]; exact Nat.le_refl _⟩) (fun i x σ H H' hi p hy => ?_) hn
  obtain ⟨rfl, kk', v, q, hk, rfl, hq⟩ := hy
  rw [km_get] at hk
  obtain ⟨p', hp, ep⟩ := Option.map_eq_some_iff.mp hk
  simp only [Prod.mk.injEq] at ep
  obtain ⟨rfl, rfl⟩ := ep
  exact hs i _ p'.1 σ H' (by rw [List.getElem?_map, hp]; rfl) (IsS.of_key hq) p
end
end Sh
set_option Elab.async false
set_option linter.all false
set_option maxRecDepth 100000
set_option maxHeartbeats 4000000
/-! More rules: bools, zip, dict comprehensions, items, tuple * n. -/
namespace Sh
open PySem PySem.Spec PyProof.Rows L2 RZ

/-- bools -/
def kB : Kd Bool where
  R := fun _ v i => v = .bl i
  enc := .bool
  dp := fun K H v b r => by rw [r]; exact .bl b
  eq := fun b c => by
    cases b <;> cases c <;> simp [PyData.eqv]
  lay := fun b => by simp [PyData.canLay0]
  deep := 0
  depth := fun b => by simp [PyData.depth]
  mono := fun _ r => r
theorem bls_pr {vs : List V} {ns : List Bool} {H : Hp} (h : Paired (kB.R H) vs ns) : vs = ns.map V.bl := pr_eq_map h
theorem LsD.bls {K : PySem.W.Frag} {H : Hp} {v : V} {bs : List Bool} (h : LsD kB H v bs) : ∃ a, v = .ref a ∧ SqL K H a (bs.map V.bl) := by
  obtain ⟨a, vs, rfl, ha, r⟩ := h
  rw [bls_pr r] at ha
  exact ⟨a, rfl, SqL.of ha⟩
theorem LsD.ints {K : PySem.W.Frag} {H : Hp} {v : V} {bs : List Int} (h : LsD kI H v bs) : ∃ a, v = .ref a ∧ H a = some (.lst (bs.map V.int)) := by
  obtain ⟨a, vs, rfl, ha, r⟩ := h
  rw [ints_pr r] at ha
  exact ⟨a, rfl, ha⟩

/-! ### zip(t, u) in a comprehension -/
section
variable {K : PySem.W.Frag} {j1 j2 : Nat} {tt : TT} {te : TE} {vs : List Nat} {σ : L2.St} {H1 : Hp} {D : Addr} {Qd : Hp → Prop} {α β : Type}
theorem lcD_zip (hD : H1 D = none) (kx : Kd α) (ky : Kd β) {a b : Addr} {xs ys : List V} {as bs : List α} (f : α × α → Option β) (hx : Rd H1 a (.tup xs)) (hxb : Paired (kx.R H1) xs as) (hy : Rd H1 b (.tup ys)) (hyb : Paired (kx.R H1) ys bs) (hz : as.length ≤ 1000000)
    (hw : ∀ x y, wipe (((wipe σ vs).set j1 (some x)).set j2 (some y)) vs = wipe σ vs)
    (ht : ∀ x y p H, Ex H1 H → kx.R H x p.1 → kx.R H y p.2 → p ∈ as.zip bs → EvB tt (((wipe σ vs).set j1 (some x)).set j2 (some y)) H (f p).isSome)
    (he : ∀ x y p c H, Ex H1 H → kx.R H x p.1 → kx.R H y p.2 → p ∈ as.zip bs → f p = some c → EvD te (((wipe σ vs).set j1 (some x)).set j2 (some y)) H fun y H' => ky.R H' y c)
    (k : ∀ H', Ex H1 H' → LsD ky H' (.ref D) ((as.zip bs).filterMap f) → Qd H') :
    ∃ W : Nat → Nat → Hp → Prop, (∃ m, W 0 m (upd H1 D (.lst []))) ∧ ∀ i m H, W i m H →
      ((ItzT K a b).stop i H ∧ Qd H) ∨ ((ItzT K a b).go i H ∧ ∃ Nx : Hp → Prop, (∀ H', Nx H' → ∃ m', m' < m ∧ W (i + 1) m' H') ∧ ∀ x H', (ItzT K a b).yld i H x H' → gTup K 2 (gCons (gName j1) (gCons (gName j2) gNil)) x (wipe σ vs) H' fun σ2 H2 => wipe σ2 vs = wipe σ vs ∧ tt σ2 H2 fun b H3 =>
        if b = true then te σ2 H3 fun y H4 => ∃ acc, H4 D = some (.lst acc) ∧ acc.length < sizeLine ∧ Nx (upd H4 D (.lst (acc ++ [y]))) else Nx H3) := by
  have hl1 := pr_len hxb
  have hl2 := pr_len hyb
  have hzl : (as.zip bs).length = min as.length bs.length := List.length_zip
  refine lcJ ky (as.zip bs).length (fun i => ((as.zip bs)[i]?).bind f) (by omega) hD (fun i H hi e => ?_) (fun H e => ?_) (fun i x H H' hi e hyl => ?_) fun H' e h => k H' e (by rw [given_list] at h; exact h)
  · exact ⟨xs, ys, _, _, SqT.rd (e.t.rd hx), SqT.rd (e.t.rd hy), List.getElem?_eq_getElem (by omega), List.getElem?_eq_getElem (by omega)⟩
  · exact ⟨xs, ys, SqT.rd (e.t.rd hx), SqT.rd (e.t.rd hy), by omega⟩
  · obtain ⟨T, x1, y1, rfl, hT, rfl, h1, h2⟩ := hyl
    obtain ⟨p1, hp1, hR1⟩ := pr_get hxb (h1 xs (SqT.rd (e.t.rd hx)))
    obtain ⟨p2, hp2, hR2⟩ := pr_get hyb (h2 ys (SqT.rd (e.t.rd hy)))
    have hbi : (as.zip bs)[i]? = some (p1, p2) := by
      rw [List.getElem?_zip_eq_some]
      exact ⟨hp1, hp2⟩
    have hm := List.mem_of_getElem? hbi
    have e2 : Ex H (upd H T (.tup [x1, y1])) := Ex.new hT
    have e3 := e.trans e2
    refine ⟨_, upd H T (.tup [x1, y1]), e2, fun Q q => ⟨T, [x1, y1], rfl, SqT.of upd_same, rfl, _, _, rfl, _, _, rfl, rfl, q⟩, hw x1 y1, ?_, fun c hc => ?_⟩
    · simp only [hbi, Option.bind_some]
      exact ht x1 y1 (p1, p2) _ e3 (kx.mono e3.t hR1) (kx.mono e3.t hR2) hm
    · simp only [hbi, Option.bind_some] at hc
      exact he x1 y1 (p1, p2) c _ e3 (kx.mono e3.t hR1) (kx.mono e3.t hR2) hm hc
/-- over the items of a dict that is locked -/
theorem lcD_items (hD : H1 D = none) (ky : Kd β) {d : Addr} {od : Obj} {kvs : SV} (f : Sx × V → Option β) (hd : H1 d = some (.frz od (.dT (km kvs)))) (hz : kvs.length ≤ 1000000)
    (hw : ∀ x y, wipe (((wipe σ vs).set j1 (some x)).set j2 (some y)) vs = wipe σ vs)
    (ht : ∀ x p H, Ex H1 H → IsS H x p.1 → p ∈ kvs → EvB tt (((wipe σ vs).set j1 (some x)).set j2 (some p.2)) H (f p).isSome)
    (he : ∀ x p c H, Ex H1 H → IsS H x p.1 → p ∈ kvs → f p = some c → EvD te (((wipe σ vs).set j1 (some x)).set j2 (some p.2)) H fun y H' => ky.R H' y c)
    (k : ∀ H', Ex H1 H' → LsD ky H' (.ref D) (kvs.filterMap f) → Qd H') :
    ∃ W : Nat → Nat → Hp → Prop, (∃ m, W 0 m (upd H1 D (.lst []))) ∧ ∀ i m H, W i m H →
      ((ItiT d od kvs).stop i H ∧ Qd H) ∨ ((ItiT d od kvs).go i H ∧ ∃ Nx : Hp → Prop, (∀ H', Nx H' → ∃ m', m' < m ∧ W (i + 1) m' H') ∧ ∀ x H', (ItiT d od kvs).yld i H x H' → gTup K 2 (gCons (gName j1) (gCons (gName j2) gNil)) x (wipe σ vs) H' fun σ2 H2 => wipe σ2 vs = wipe σ vs ∧ tt σ2 H2 fun b H3 =>
        if b = true then te σ2 H3 fun y H4 => ∃ acc, H4 D = some (.lst acc) ∧ acc.length < sizeLine ∧ Nx (upd H4 D (.lst (acc ++ [y]))) else Nx H3) := by
  refine lcJ ky kvs.length (fun i => (kvs[i]?).bind f) hz hD (fun i H hi e => ⟨e _ _ hd, hi⟩) (fun H e => ⟨e _ _ hd, Nat.le_refl _⟩) (fun i x H H' hi e hyl => ?_) fun H' e h => k H' e (by rw [given_list] at h; exact h)
  obtain ⟨T, s, v, y, hbi, rfl, hT, hs, rfl⟩ := hyl
  have hm := List.mem_of_getElem? hbi
  have e2 : Ex H (upd H T (.tup [y, v])) := Ex.new hT
  have e3 := e.trans e2
  have hR := hs.mono e2.t
  refine ⟨_, _, e2, fun Q q => ⟨T, [y, v], rfl, SqT.of upd_same, rfl, _, _, rfl, _, _, rfl, rfl, q⟩, hw y v, ?_, fun c hc => ?_⟩
  · simp only [hbi, Option.bind_some]
    exact ht y (s, v) _ e3 hR hm
  · simp only [hbi, Option.bind_some] at hc
    exact he y (s, v) c _ e3 hR hm hc
end

/-! ### dict comprehensions over simplices -/
section
variable {J : It} {g : TG} {tt : TT} {tk tv : TE} {vs : List Nat} {σ : L2.St} {H1 : Hp} {D : Addr} {Qd : Hp → Prop}
/-- a dict comprehension; Iv: what is known of the dict's pairs after the first i turns -/
theorem dcJ (n : Nat) (c : Nat → Option Sx) (Iv : Hp → Nat → SV → Prop) (hz : n ≤ 1000000) (hD : H1 D = none) (hI0 : Iv (upd H1 D (.dT [])) 0 [])
    (hgo : ∀ i H, i < n → Ex H1 H → J.go i H) (hstop : ∀ H, Ex H1 H → J.stop n H)
    (hs : ∀ i x H H', i < n → Ex H1 H → J.yld i H x H' → ∃ σ2 H2, Ex H H2 ∧ (∀ Q, Q σ2 H2 → g x (wipe σ vs) H' Q) ∧ wipe σ2 vs = wipe σ vs ∧ EvB tt σ2 H2 (c i).isSome ∧
      ∀ s, c i = some s → EvD tk σ2 H2 (fun y H4 => IsS H4 y s) ∧
        ∀ H4, Ex H2 H4 → ∀ kvs, kvs.length ≤ i → Iv H i kvs → EvD tv σ2 H4 fun z H5 => Iv (upd H5 D (.dT (km (putK kvs s z)))) (i + 1) (putK kvs s z))
    (hno : ∀ i H H' kvs, i < n → Ex H1 H → Ex H H' → c i = none → Iv H i kvs → Iv H' (i + 1) kvs)
    (hd : ∀ H' kvs, Ex H1 H' → H' D = some (.dT (km kvs)) → kvs.length ≤ n → Iv H' n kvs → Qd H') :
    ∃ W : Nat → Nat → Hp → Prop, (∃ m, W 0 m (upd H1 D (.dT []))) ∧ ∀ i m H, W i m H →
      (J.stop i H ∧ Qd H) ∨ (J.go i H ∧ ∃ Nx : Hp → Prop, (∀ H', Nx H' → ∃ m', m' < m ∧ W (i + 1) m' H') ∧ ∀ x H', J.yld i H x H' → g x (wipe σ vs) H' fun σ2 H2 => wipe σ2 vs = wipe σ vs ∧ tt σ2 H2 fun b H3 =>
        if b = true then tk σ2 H3 fun y H4 => tv σ2 H4 fun z H5 => ∃ kvs k, IsS H5 y k ∧ H5 D = some (.dT (km kvs)) ∧ kvs.length ≤ 1000000 ∧ Nx (upd H5 D (.dT (km (putK kvs k z)))) else Nx H3) := by
  let Pv : Nat → Hp → Prop := fun i H => Ex H1 H ∧ ∃ kvs : SV, H D = some (.dT (km kvs)) ∧ kvs.length ≤ i ∧ Iv H i kvs
  refine ⟨fun i m H => m = n - i ∧ i ≤ n ∧ Pv i H, ⟨n, rfl, Nat.zero_le _, Ex.new hD, [], upd_same, Nat.le_refl _, hI0⟩, ?_⟩
  rintro i m H ⟨rfl, hi, e, kvs, hy, hl, hp⟩
  by_cases hlt : i < n
  · refine .inr ⟨hgo i H hlt e, Pv (i + 1), fun H' p' => ⟨n - (i + 1), by omega, rfl, hlt, p'⟩, fun x H' hyl => ?_⟩
    obtain ⟨σ2, H2, e2, hg, hw, hB, hE⟩ := hs i x H H' hlt e hyl
    refine hg _ ⟨hw, hB H2 (Ex.refl H2) _ fun H3 e3 => ?_⟩
    cases hf : c i with
    | none => exact iteF ⟨(e.trans e2).trans e3, kvs, (e2.trans e3) _ _ hy, by omega, hno i H _ kvs hlt e (e2.trans e3) hf hp⟩
    | some b =>
      obtain ⟨h1, h2⟩ := hE b hf
      refine iteT (h1 H3 e3 _ fun y H4 e4 hR => h2 H4 (e3.trans e4) kvs hl hp H4 (Ex.refl H4) _ fun z H5 e5 hR5 => ?_)
      have e25 : Ex H H5 := ((e2.trans e3).trans e4).trans e5
      have hl2 := putK_length kvs b z
      exact ⟨kvs, b, hR.mono e5.t, e25 _ _ hy, by omega, Ex.mut (e.trans e25) hD, putK kvs b z, upd_same, by omega, hR5⟩
  · obtain rfl : i = n := by omega
    exact .inl ⟨hstop H e, hd H kvs e hy hl hp⟩
end

/-! ### t * k -/
theorem tuple_mul0 (l : Addr) (items : Array Value) (n : Nat) (dd : Option Addr) (sl : Array (Option Value)) (x : Int) (u : Tok) (c0 : (decide (x < -(2 ^ 63)) || decide (x ≥ 2 ^ 63)) = false) (c1 : (items.isEmpty || x == 1) = false) (c2 : (decide (x ≤ 0) || items.isEmpty) = true) :
    Meets (Builtin.«tuple.__mul__» ⟨[.ref l, .int x u], []⟩) (fun _ R s => s.heap.get? l = some { cls := .type "tuple", dict := dd, data := .seq items n, slots := sl } ∧
      R (.ok (.ret (Value.ref s.heap.objs.size))) { s with heap := s.heap.push { cls := Value.type "tuple", data := Data.seq #[] }, toks := s.toks }) :=
  .of_wp fun prog w A R s h => by
    obtain ⟨hp, g, d, tk, os⟩ := s
    obtain ⟨hl, h⟩ := h
    have f1 := AutoSeq1.idx_int
    wp_walk using wpAny_loadPart' hl
    repeat (first
      | (refine wpAny_ite_false (decide_eq_false (by rw [c0]; exact Bool.false_ne_true)) ?_; wp_walk using wpAny_loadPart' hl)
      | (refine wpAny_ite_false (decide_eq_false (by rw [c1]; exact Bool.false_ne_true)) ?_; wp_walk using wpAny_loadPart' hl)
      | (refine wpAny_ite_true (decide_eq_true c2) ?_; wp_walk using wpAny_loadPart' hl))
    exact ⟨_, rfl, h⟩
end Sh
set_option Elab.async false
set_option linter.all false
set_option maxRecDepth 100000
set_option maxHeartbeats 4000000
/-! t * k for any k from nought. -/
namespace Sh
open PySem PySem.Spec PyProof.Rows L2 RZ
theorem tuple_mul1 (l : Addr) (items : Array Value) (n : Nat) (dd : Option Addr) (sl : Array (Option Value)) (x : Int) (u : Tok) (c0 : (decide (x < -(2 ^ 63)) || decide (x ≥ 2 ^ 63)) = false) (c1 : (items.isEmpty || x == 1) = true) :
    Meets (Builtin.«tuple.__mul__» ⟨[.ref l, .int x u], []⟩) (fun _ R s => s.heap.get? l = some { cls := .type "tuple", dict := dd, data := .seq items n, slots := sl } ∧
      R (.ok (.ret (Value.ref l))) s) :=
  .of_wp fun prog w A R s h => by
    obtain ⟨hp, g, d, tk, os⟩ := s
    obtain ⟨hl, h⟩ := h
    have f1 := AutoSeq1.idx_int
    wp_walk using wpAny_loadPart' hl
    repeat (first
      | (refine wpAny_ite_false (decide_eq_false (by rw [c0]; exact Bool.false_ne_true)) ?_; wp_walk using wpAny_loadPart' hl)
      | (refine wpAny_ite_true (decide_eq_true c1) ?_; wp_walk using wpAny_loadPart' hl))
    exact ⟨_, rfl, h⟩
def rRepG : R2 := fun x y H Q => ∃ k xs, IsT H x xs ∧ y = .int ((k : Nat) : Int) ∧ xs ≠ [] ∧ k ≤ 1000 ∧ xs.length ≤ 1000 ∧ ∀ v H', Ex H H' → IsT H' v (List.replicate k xs).flatten → Q v H'
section
variable {X : Cx}
theorem op_repG : OpR X (binaryOp .Mult) rRepG := by
  intro pins s σ H x y v u Q I rx ry h
  obtain ⟨k, xs, ⟨l, rfl, hl⟩, rfl, hne, hk, hz, q⟩ := h
  by_cases h2 : 2 ≤ k
  · refine op_repT pins s σ H _ _ v u Q I rx ry ⟨l, (k : Int), xs, rfl, rfl, SqT.rd hl, hne, by omega, by omega, hz, fun p hp => ?_⟩
    exact q _ _ (Ex.new hp) ⟨p, rfl, .inl (by rw [upd_same]; rfl)⟩
  · cases rx
    obtain ⟨t, rfl⟩ := ry
    obtain ⟨its, r, ⟨⟨cls, dd, data, sl⟩, ho, hc, n, hd⟩, hs⟩ := I.tuple (SqT.rd hl)
    simp only at hc hd
    subst hc hd
    have hle : its.length = xs.length := r.length.symm
    have hn : its ≠ [] := fun e => hne (by
      rw [e] at hle
      exact List.eq_nil_of_length_eq_zero hle.symm)
    have hi : its.toArray.isEmpty = false := by
      cases its with
      | nil => exact absurd rfl hn
      | cons a b => rfl
    have c0 : (decide ((k : Int) < -(2 ^ 63)) || decide ((k : Int) ≥ 2 ^ 63)) = false := by
      rw [decide_eq_false (by omega), decide_eq_false (by omega)] <;> rfl
    by_cases h1 : k = 1
    · subst h1
      have c1 : (its.toArray.isEmpty || ((1 : Nat) : Int) == 1) = true := by
        rw [hi]
        rfl
      refine wpAny_binaryOp_repeat_ref (T := "tuple") (U := "int") (by decide) ⟨_, ho, rfl⟩ (fun s' => typeIs_int s' _ t) noFill_tuple_mul F.fills_int_mul F.slot_int_rmul repeat_tuple F.slot_int_index.lookup
        (call_meets F.slot_int_rmul (typeIs_int s _ t) F.entry_int_rmul (F.args_int_rmul_2 _ _) (int_rmul_tuple _ t l its.toArray n dd sl)
          ⟨ho, rfl, ⟨_, ho, rfl⟩, call_meets F.slot_tuple_mul ⟨_, ho, rfl⟩ F.entry_tuple_mul (F.args_tuple_mul_2 _ _) (tuple_mul1 l its.toArray n dd sl _ t c0 c1) ⟨ho, ?_⟩⟩)
      exact ⟨.ref l, H, I, rfl, q _ _ (Ex.refl H) ⟨l, rfl, by simpa using hl⟩⟩
    · have h0 : k = 0 := by omega
      subst h0
      have c1 : (its.toArray.isEmpty || ((0 : Nat) : Int) == 1) = false := by
        rw [hi]
        rfl
      have c2 : (decide (((0 : Nat) : Int) ≤ 0) || its.toArray.isEmpty) = true := by
        rw [hi]
        rfl
      refine wpAny_binaryOp_repeat_ref (T := "tuple") (U := "int") (by decide) ⟨_, ho, rfl⟩ (fun s' => typeIs_int s' _ t) noFill_tuple_mul F.fills_int_mul F.slot_int_rmul repeat_tuple F.slot_int_index.lookup
        (call_meets F.slot_int_rmul (typeIs_int s _ t) F.entry_int_rmul (F.args_int_rmul_2 _ _) (int_rmul_tuple _ t l its.toArray n dd sl)
          ⟨ho, rfl, ⟨_, ho, rfl⟩, call_meets F.slot_tuple_mul ⟨_, ho, rfl⟩ F.entry_tuple_mul (F.args_tuple_mul_2 _ _) (tuple_mul0 l its.toArray n dd sl _ t c0 c1 c2) ⟨ho, ?_⟩⟩)
      have hf : H s.heap.objs.size = none := I.hok.fresh (Nat.le_refl _)
      refine ⟨.ref s.heap.objs.size, _, I.laid (t' := s.toks) (o := .tup []) (fun b ob q => Heap.get?_push_of_some _ q) (Nat.le_refl _) ⟨Nat.zero_le _, [], .nil, IsTup.new _ _⟩, rfl, q _ _ (Ex.new hf) ⟨_, rfl, .inl upd_same⟩⟩
end
end Sh
set_option Elab.async false
set_option linter.all false
set_option maxRecDepth 100000
set_option maxHeartbeats 4000000
/-! Loops told by what remains. -/
namespace Sh
open PySem PySem.Spec PyProof.Rows L2 RZ
theorem drop_cons {β : Type} {bs : List β} {i : Nat} {b : β} (h : bs[i]? = some b) : bs.drop i = b :: bs.drop (i + 1) := by
  obtain ⟨hi, rfl⟩ := List.getElem?_eq_some_iff.mp h
  exact List.drop_eq_getElem_cons hi
section
variable {g : TG} {tb : TS} {D : Ends} {σ : L2.St} {H : Hp} {α : Type} {K : PySem.W.Frag}
theorem forR_tup (kx : Kd α) {a : Addr} {xs : List V} {bs : List α} (hb : Paired (kx.R H) xs bs) (Pv : List α → L2.St → Hp → Prop) (h0 : Pv bs σ H) (hl : ∀ r σ H', Pv r σ H' → TEx H H' ∧ SqT K H' a xs)
    (hs : ∀ b r x σ H', kx.R H' x b → b ∈ bs → Pv (b :: r) σ H' → g x σ H' fun σ2 H2 => tb { D with nx := Pv r, ct := Pv r, bk := D.nx } σ2 H2) (hd : ∀ σ H', Pv [] σ H' → D.nx σ H') :
    ∃ W : Nat → Nat → L2.St → Hp → Prop, (∃ m, W 0 m σ H) ∧ ∀ i m σ H, W i m σ H → ((Itt K a).stop i H ∧ D.nx σ H) ∨ ((Itt K a).go i H ∧ ∃ N : L2.St → Hp → Prop, (∀ σ' H', N σ' H' → ∃ m', m' < m ∧ W (i + 1) m' σ' H') ∧
      ∀ x H', (Itt K a).yld i H x H' → g x σ H' fun σ2 H2 => tb { D with nx := N, ct := N, bk := D.nx } σ2 H2) := by
  have hn := pr_len hb
  refine for_tup (K := K) (a := a) (xs := xs) (fun i σ H' => Pv (bs.drop i) σ H') h0 (fun i σ H' _ p => (hl _ σ H' p).2) (fun i x σ H' hx p => ?_) (fun σ H' p => hd σ H' (by rw [hn, List.drop_length] at p; exact p))
  obtain ⟨b, hbi, hR⟩ := pr_get hb hx
  exact hs b _ x σ H' (kx.mono (hl _ σ H' p).1 hR) (List.mem_of_getElem? hbi) (by rw [drop_cons hbi] at p; exact p)
theorem forR_lst (kx : Kd α) {a : Addr} {xs : List V} {bs : List α} (hb : Paired (kx.R H) xs bs) (Pv : List α → L2.St → Hp → Prop) (h0 : Pv bs σ H) (hl : ∀ r σ H', Pv r σ H' → TEx H H' ∧ SqL K H' a xs)
    (hs : ∀ b r x σ H', kx.R H' x b → b ∈ bs → Pv (b :: r) σ H' → g x σ H' fun σ2 H2 => tb { D with nx := Pv r, ct := Pv r, bk := D.nx } σ2 H2) (hd : ∀ σ H', Pv [] σ H' → D.nx σ H') :
    ∃ W : Nat → Nat → L2.St → Hp → Prop, (∃ m, W 0 m σ H) ∧ ∀ i m σ H, W i m σ H → ((Itl K a).stop i H ∧ D.nx σ H) ∨ ((Itl K a).go i H ∧ ∃ N : L2.St → Hp → Prop, (∀ σ' H', N σ' H' → ∃ m', m' < m ∧ W (i + 1) m' σ' H') ∧
      ∀ x H', (Itl K a).yld i H x H' → g x σ H' fun σ2 H2 => tb { D with nx := N, ct := N, bk := D.nx } σ2 H2) := by
  have hn := pr_len hb
  refine for_list (K := K) (a := a) (xs := xs) (fun i σ H' => Pv (bs.drop i) σ H') h0 (fun i σ H' _ p => (hl _ σ H' p).2) (fun i x σ H' hx p => ?_) (fun σ H' p => hd σ H' (by rw [hn, List.drop_length] at p; exact p))
  obtain ⟨b, hbi, hR⟩ := pr_get hb hx
  exact hs b _ x σ H' (kx.mono (hl _ σ H' p).1 hR) (List.mem_of_getElem? hbi) (by rw [drop_cons hbi] at p; exact p)
theorem forR_keys {d : Addr} {od : Obj} {kvs : SV} (Pv : List Sx → L2.St → Hp → Prop) (h0 : Pv (kvs.map (·.1)) σ H) (hl : ∀ r σ H', Pv r σ H' → H' d = some (.frz od (.dT (km kvs))))
    (hs : ∀ b r x σ H', IsS H' x b → b ∈ kvs.map (·.1) → Pv (b :: r) σ H' → g x σ H' fun σ2 H2 => tb { D with nx := Pv r, ct := Pv r, bk := D.nx } σ2 H2) (hd : ∀ σ H', Pv [] σ H' → D.nx σ H') :
    ∃ W : Nat → Nat → L2.St → Hp → Prop, (∃ m, W 0 m σ H) ∧ ∀ i m σ H, W i m σ H → ((Itkt d od (km kvs)).stop i H ∧ D.nx σ H) ∨ ((Itkt d od (km kvs)).go i H ∧ ∃ N : L2.St → Hp → Prop, (∀ σ' H', N σ' H' → ∃ m', m' < m ∧ W (i + 1) m' σ' H') ∧
      ∀ x H', (Itkt d od (km kvs)).yld i H x H' → g x σ H' fun σ2 H2 => tb { D with nx := N, ct := N, bk := D.nx } σ2 H2) := by
  refine for_keys (fun i σ H' => Pv ((kvs.map fun p : Sx × V => p.1).drop i) σ H') h0 (fun i σ H' p => hl _ σ H' p) (fun i x s σ H' hx hR p => ?_) (fun σ H' p => hd σ H' (by
    rw [List.drop_eq_nil_of_le (by rw [List.length_map]; exact Nat.le_refl _)] at p
    exact p))
  exact hs s _ x σ H' hR (List.mem_of_getElem? hx) (by rw [drop_cons hx] at p; exact p)
/-- over range(n) -/
theorem forR_rng {n : Nat} (Pv : Nat → L2.St → Hp → Prop) (h0 : Pv 0 σ H)
    (hs : ∀ (i : Nat) σ H', i < n → Pv i σ H' → g (.int (i : Int)) σ H' fun σ2 H2 => tb { D with nx := Pv (i + 1), ct := Pv (i + 1), bk := D.nx } σ2 H2) (hd : ∀ σ H', Pv n σ H' → D.nx σ H') :
    ∃ W : Nat → Nat → L2.St → Hp → Prop, (∃ m, W 0 m σ H) ∧ ∀ i m σ H, W i m σ H → ((Itr 0 n).stop i H ∧ D.nx σ H) ∨ ((Itr 0 n).go i H ∧ ∃ N : L2.St → Hp → Prop, (∀ σ' H', N σ' H' → ∃ m', m' < m ∧ W (i + 1) m' σ' H') ∧
      ∀ x H', (Itr 0 n).yld i H x H' → g x σ H' fun σ2 H2 => tb { D with nx := N, ct := N, bk := D.nx } σ2 H2) := by
  refine for_range Pv h0 (fun i σ H' hi p => ?_) hd
  rw [Int.zero_add]
  exact hs i σ H' hi p
/-- over the items of a dict that is locked -/
theorem forR_items {d : Addr} {od : Obj} {kvs : SV} (Pv : SV → L2.St → Hp → Prop) (h0 : Pv kvs σ H) (hl : ∀ r σ H', Pv r σ H' → H' d = some (.frz od (.dT (km kvs))))
    (hs : ∀ p r T y σ H', H' T = none → IsS H' y p.1 → p ∈ kvs → Pv (p :: r) σ H' → g (.ref T) σ (upd H' T (.tup [y, p.2])) fun σ2 H2 => tb { D with nx := Pv r, ct := Pv r, bk := D.nx } σ2 H2) (hd : ∀ σ H', Pv [] σ H' → D.nx σ H') :
    ∃ W : Nat → Nat → L2.St → Hp → Prop, (∃ m, W 0 m σ H) ∧ ∀ i m σ H, W i m σ H → ((ItiT d od kvs).stop i H ∧ D.nx σ H) ∨ ((ItiT d od kvs).go i H ∧ ∃ N : L2.St → Hp → Prop, (∀ σ' H', N σ' H' → ∃ m', m' < m ∧ W (i + 1) m' σ' H') ∧
      ∀ x H', (ItiT d od kvs).yld i H x H' → g x σ H' fun σ2 H2 => tb { D with nx := N, ct := N, bk := D.nx } σ2 H2) := by
  refine for_J kvs.length (fun i σ H' => Pv (kvs.drop i) σ H') h0 (fun i σ H' hi p => ⟨hl _ σ H' p, hi⟩) (fun σ H' p => ⟨hl _ σ H' p, Nat.le_refl _⟩) (fun i x σ H' H2 hi p hy => ?_) (fun σ H' p => hd σ H' (by rw [List.drop_length] at p; exact p))
  obtain ⟨T, s, v, y, hbi, rfl, hT, hR, rfl⟩ := hy
  exact hs (s, v) _ T y σ H' hT hR (List.mem_of_getElem? hbi) (by rw [drop_cons hbi] at p; exact p)
end
/-! ### a list or a tuple -/
def SeqD {α : Type} (kx : Kd α) (H : Hp) (v : V) (bs : List α) : Prop := LsD kx H v bs ∨ (kTp kx).R H v bs
/-- how one walks it -/
def ItG (K : PySem.W.Frag) (H : Hp) (a : Addr) (xs : List V) (J : It) : Prop := (J = Itl K a ∧ H a = some (.lst xs)) ∨ (J = Itt K a ∧ Rd H a (.tup xs))
def iAny (K : PySem.W.Frag) (tl : TE) : TI := fun σ H R => tl σ H fun x H1 => ∃ a xs, x = .ref a ∧ (H1 a = some (.lst xs) ∨ Rd H1 a (.tup xs)) ∧ ∀ J, ItG K H1 a xs J → R J H1
theorem pi_any {X : Cx} {tg l : Expr} {tl : TE} (hl : PE X l tl) : PI X tg l (iAny X.K tl) := by
  have h1 := pi_list (tg := tg) hl
  have h2 := pi_tup (tg := tg) hl
  refine ⟨fun pins s σ H R I h => ?_⟩
  refine thn (hl.run pins s σ H _ I h) fun v s1 ⟨x, H1, I1, r1, q1⟩ => ?_
  obtain ⟨a, xs, e, hq, q⟩ := q1
  subst e
  cases r1
  rcases hq with hq | hq
  · obtain ⟨its, rv, p, hz⟩ := I1.list (SqL.of hq)
    refine wpAny_pyIter_list p.isList ?_
    refine ⟨s1.heap.objs.size, [s1.heap.objs.size], _, _, H1, rfl, I1.kept (t' := s1.toks) fun b o e => Heap.get?_push_of_some _ e, turn_list a _, ⟨_, Heap.get?_push_size _ rfl, rfl, rfl⟩, fun b hb => ?_, q _ (.inl ⟨rfl, hq⟩)⟩
    have e : b = s1.heap.objs.size := by simpa using hb
    subst e
    exact I1.fpOk (Nat.le_refl _) (I1.hok.fresh (Nat.le_refl _))
  · obtain ⟨its, rv, p, hz⟩ := I1.tuple (SqT.rd hq)
    refine wpAny_pyIter_tuple (show s1.heap.IsTuple a its.toArray from p) ?_
    refine ⟨s1.heap.objs.size, [s1.heap.objs.size], _, _, H1, rfl, I1.kept (t' := s1.toks) fun b o e => Heap.get?_push_of_some _ e, turn_tuple a _, ⟨_, Heap.get?_push_size _ rfl, rfl, rfl⟩, fun b hb => ?_, q _ (.inr ⟨rfl, hq⟩)⟩
    have e : b = s1.heap.objs.size := by simpa using hb
    subst e
    exact I1.fpOk (Nat.le_refl _) (I1.hok.fresh (Nat.le_refl _))
section
variable {g : TG} {tb : TS} {D : Ends} {σ : L2.St} {H : Hp} {α : Type} {K : PySem.W.Frag}
theorem forR_any (kx : Kd α) {a : Addr} {xs : List V} {bs : List α} {J : It} (hJ : ItG K H a xs J) (hb : Paired (kx.R H) xs bs) (Pv : List α → L2.St → Hp → Prop) (h0 : Pv bs σ H) (hl : ∀ r σ H', Pv r σ H' → TEx H H' ∧ (H a = some (.lst xs) → H' a = some (.lst xs)))
    (hs : ∀ b r x σ H', kx.R H' x b → b ∈ bs → Pv (b :: r) σ H' → g x σ H' fun σ2 H2 => tb { D with nx := Pv r, ct := Pv r, bk := D.nx } σ2 H2) (hd : ∀ σ H', Pv [] σ H' → D.nx σ H') :
    ∃ W : Nat → Nat → L2.St → Hp → Prop, (∃ m, W 0 m σ H) ∧ ∀ i m σ H, W i m σ H → (J.stop i H ∧ D.nx σ H) ∨ (J.go i H ∧ ∃ N : L2.St → Hp → Prop, (∀ σ' H', N σ' H' → ∃ m', m' < m ∧ W (i + 1) m' σ' H') ∧
      ∀ x H', J.yld i H x H' → g x σ H' fun σ2 H2 => tb { D with nx := N, ct := N, bk := D.nx } σ2 H2) := by
  rcases hJ with ⟨rfl, ha⟩ | ⟨rfl, ha⟩
  · exact forR_lst kx hb Pv h0 (fun r σ H' p => ⟨(hl r σ H' p).1, SqL.of ((hl r σ H' p).2 ha)⟩) hs hd
  · exact forR_tup kx hb Pv h0 (fun r σ H' p => ⟨(hl r σ H' p).1, SqT.rd ((hl r σ H' p).1.rd ha)⟩) hs hd
end
theorem SeqD.at {α : Type} {kx : Kd α} {H : Hp} {v : V} {bs : List α} (h : SeqD kx H v bs) : ∃ a xs, v = .ref a ∧ (H a = some (.lst xs) ∨ Rd H a (.tup xs)) ∧ Paired (kx.R H) xs bs := by
  rcases h with ⟨a, vs, rfl, h, r⟩ | ⟨a, vs, rfl, h, r⟩
  · exact ⟨a, vs, rfl, .inl h, r⟩
  · exact ⟨a, vs, rfl, .inr h, r⟩
theorem SeqD.ex {α : Type} {kx : Kd α} {H H' : Hp} {v : V} {bs : List α} (e : Ex H H') (h : SeqD kx H v bs) : SeqD kx H' v bs := by
  rcases h with h | h
  · exact .inl (h.ex e)
  · exact .inr ((kTp kx).mono e.t h)
/-- a list of data stays when a dict is unlocked -/
theorem LsD.unlock {β : Type} {k : Kd β} {H : Hp} {v : V} {bs : List β} {d : Addr} {od : Obj} {kvs : SV} {o : HO} (h : LsD k H v bs) (hd : H d = some (.frz od (.dT (km kvs)))) : LsD k (upd H d o) v bs := by
  obtain ⟨a, vs, rfl, ha, r⟩ := h
  have n : a ≠ d := fun q => by
    rw [q, hd] at ha
    cases ha
  exact ⟨a, vs, rfl, by rw [upd_ne n]; exact ha, pr_kmono k (TEx.wrF hd) r⟩
/-- what is made while a dict is locked, and after -/
theorem ex_lock {H : Hp} {d : Addr} {od : Obj} {kvs : SV} (h : DtAt H d kvs) : TEx H (upd H d (.frz od (.dT (km kvs)))) := TEx.wrT h
theorem IsS.unlock {H : Hp} {v : V} {s : Sx} {d : Addr} {od : Obj} {kvs : SV} {o : HO} (h : IsS H v s) (hd : H d = some (.frz od (.dT (km kvs)))) : IsS (upd H d o) v s := h.mono (TEx.wrF hd)
theorem mut_dT {kvs : SV} : Mut (some (.dT (km kvs))) := by trivial
end Sh
set_option Elab.async false
set_option linter.all false
set_option maxRecDepth 100000
set_option maxHeartbeats 2000000
/-! What the functions compute, in plain Lean. -/
namespace Sh
open PySem L2

def addK (F : List Sx) (s : Sx) : List Sx := if s ∈ F then F else F ++ [s]
def addAll (F ps : List Sx) : List Sx := ps.foldl addK F
def parts0 (s : Sx) : List Sx := s.foldl (fun acc v => acc ++ acc.map (· ++ [v])) [[]]
def parts (s : Sx) : List Sx := (parts0 s).drop 1
def genStep (F : List Sx) (s : Sx) : List Sx := if s ∈ F then F else addAll F (parts s)
def gen (ts : List Sx) : List Sx := ts.foldl genStep []
def facesOf (s : Sx) : List Sx := (List.range s.length).map fun i => s.eraseIdx i
def innerOf (F : List Sx) : List Sx := F.foldl (fun I s => addAll I (facesOf s)) []
def sortS (l : List Sx) : List Sx := l.mergeSort (PySem.W.dataLe false kS.enc)
def sortP (l : List (Sx × Sx)) : List (Sx × Sx) := l.mergeSort (PySem.W.dataLe false kP.enc)
def maxl (F : List Sx) : List Sx := sortS (F.filter fun s => !decide (s ∈ innerOf F))
def most (F : List Sx) : Nat := (F.map List.length).foldl max 0
def bump (c : List Int) (s : Sx) (d : Int) : List Int := c.modify (s.length - 1) (· + d)
def counts (F : List Sx) : List Int := F.foldl (fun c s => bump c s 1) (List.replicate (most F) 0)
def crit (c : List Int) (P : List (Sx × Sx)) : List Int := P.foldl (fun c p => bump (bump c p.1 (-1)) p.2 (-1)) c
/-- an item of what is_pairing is asked: no pair (None, a list), or a pair of simplices -/
inductive It0
  | bad : It0
  | pr : Sx × Sx → It0
def pairM (F : List Sx) : List It0 → List Sx → Bool
  | [], _ => true
  | .bad :: _, _ => false
  | .pr p :: r, met => if p.2 ∉ F ∨ p.2.length ≠ p.1.length + 1 then false else if (p.1.any fun x => !decide (x ∈ p.2)) = true then false else if p.1 ∈ met ∨ p.2 ∈ met then false else pairM F r (addK (addK met p.1) p.2)
def freeB (left : List (Sx × Sx)) (p : Sx × Sx) : Bool := (facesOf p.2).all fun d => decide (d = p.1) || !decide (d ∈ left.map (·.1))
def ringF : Nat → List (Sx × Sx) → Bool
  | 0, _ => false
  | n + 1, left => if left = [] then false else if left.filter (freeB left) = [] then true else ringF n (left.filter fun p => !freeB left p)
def ring (P : List (Sx × Sx)) : Bool := ringF P.length P
def hold (F : List Sx) (s : Sx) : List Sx := F.flatMap fun b => (List.range b.length).filterMap fun i => if 1 < b.length ∧ b.eraseIdx i = s then some b else none
def free1 (F : List Sx) (s : Sx) : Option (Sx × Sx) := match hold F s with
  | [b] => some (s, b)
  | _ => none
def freeM (F : List Sx) : List (Sx × Sx) := sortP (F.filterMap (free1 F))
def without (F : List Sx) (p : Sx × Sx) : List Sx := F.filter fun s => !(decide (s = p.1) || decide (s = p.2))
def collF : Nat → List Sx → List (Sx × Sx)
  | 0, _ => []
  | n + 1, F => match (freeM F).getLast? with
    | none => []
    | some p => p :: collF n (without F p)
def coll (F : List Sx) : List (Sx × Sx) := collF (F.length + 1) F
def leftM (F : List Sx) (P : List (Sx × Sx)) : List Sx := P.foldl without F
def madeM (L : List Sx) : List Sx := gen (maxl (gen L))
def lawMet (ts : List Sx) : List Sx := ts.foldl (fun F s => addAll F (parts s)) []
abbrev kL : Kd (Int × Sx) := kPr kI kS
def sortL (l : List (Int × Sx)) : List (Int × Sx) := l.mergeSort (PySem.W.dataLe false kL.enc)
def lawFaces (ts : List Sx) : List Sx := (sortL ((lawMet ts).map fun s => ((s.length : Int), s))).map (·.2)
def up (P : List (Sx × Sx)) (s : Sx) : Sx := ((P.find? fun p => decide (p.1 = s)).map (·.2)).getD []
def moreM (P : List (Sx × Sx)) (met here : List Sx) : List Sx := here.flatMap fun small => (facesOf (up P small)).filter fun d => !decide (d = small) && (decide (d ∈ P.map (·.1)) && !decide (d ∈ met))
def bfs (P : List (Sx × Sx)) (first : Sx) : Nat → List Sx → List Sx → Bool
  | 0, _, _ => false
  | n + 1, met, here => if first ∈ moreM P met here then true else bfs P first n (met ++ moreM P met here) (moreM P met here)
def rings (P : List (Sx × Sx)) : Bool := P.any fun p => bfs P p.1 (P.length + 1) [] [p.1]

/-! ### conditions -/
def Good (s : Sx) : Prop := s ≠ [] ∧ s.length ≤ 8 ∧ s.Pairwise (· < ·) ∧ ∀ x ∈ s, 0 ≤ x ∧ x ≤ 30
instance (s : Sx) : Decidable (Good s) := inferInstanceAs (Decidable (_ ∧ _ ∧ _ ∧ _))
/-- the faces of a complex: no one twice, simplices of vertices 0 .. 6 -/
structure FOk (F : List Sx) : Prop where
  nd : F.Nodup
  a7 : ∀ s ∈ F, s ∈ all7
  ne : ∀ s ∈ F, s ≠ []
def Clo (F : List Sx) : Prop := ∀ b ∈ F, ∀ i, i < b.length → 1 < b.length → b.eraseIdx i ∈ F
theorem all7_len : all7.length = 128 := by decide +kernel
theorem all7_nd : all7.Nodup := by decide +kernel
theorem all7_facts : ∀ s ∈ all7, s.length ≤ 7 ∧ (s ≠ [] → Good s) ∧ (∀ i, i < s.length → s.eraseIdx i ∈ all7) ∧ ∀ p ∈ parts s, p ∈ all7 ∧ p ≠ [] := by decide +kernel
theorem a7_len {s : Sx} (h : s ∈ all7) : s.length ≤ 7 := (all7_facts s h).1
theorem a7_good {s : Sx} (h : s ∈ all7) (hn : s ≠ []) : Good s := (all7_facts s h).2.1 hn
theorem a7_erase {s : Sx} {i : Nat} (h : s ∈ all7) (hi : i < s.length) : s.eraseIdx i ∈ all7 := (all7_facts s h).2.2.1 i hi
theorem a7_parts {s p : Sx} (h : s ∈ all7) (hp : p ∈ parts s) : p ∈ all7 ∧ p ≠ [] := (all7_facts s h).2.2.2 p hp
theorem a7_parts_len : ∀ s ∈ all7, (parts0 s).length ≤ 128 := by decide +kernel
theorem a7_kS : ∀ s ∈ all7, s.length = s.length := fun _ _ => rfl
theorem nodup_le {α : Type} [DecidableEq α] : ∀ {l m : List α}, l.Nodup → (∀ x ∈ l, x ∈ m) → l.length ≤ m.length
  | [], _, _, _ => Nat.zero_le _
  | a :: l, m, hn, h => by
    rw [List.nodup_cons] at hn
    have ha := h a List.mem_cons_self
    have ih := nodup_le (l := l) (m := m.erase a) hn.2 fun x hx => by
      have hne : x ≠ a := fun e => hn.1 (e ▸ hx)
      exact (List.mem_erase_of_ne hne).mpr (h x (List.mem_cons_of_mem _ hx))
    rw [List.length_erase_of_mem ha] at ih
    have : 0 < m.length := List.length_pos_of_mem ha
    rw [List.length_cons]
    omega
theorem FOk.len {F : List Sx} (h : FOk F) : F.length ≤ 128 := by
  rw [← all7_len]
  exact nodup_le h.nd h.a7
theorem nd7_len {F : List Sx} (hn : F.Nodup) (h : ∀ s ∈ F, s ∈ all7) : F.length ≤ 128 := by
  rw [← all7_len]
  exact nodup_le hn h
theorem mem_addK {F : List Sx} {s t : Sx} : t ∈ addK F s ↔ t ∈ F ∨ t = s := by
  unfold addK
  split
  · rename_i h
    constructor
    · exact .inl
    · rintro (h1 | rfl)
      · exact h1
      · exact h
  · rw [List.mem_append, List.mem_singleton]
theorem nd_addK {F : List Sx} {s : Sx} (h : F.Nodup) : (addK F s).Nodup := by
  unfold addK
  split
  · exact h
  · rename_i hs
    rw [List.nodup_append]
    refine ⟨h, List.nodup_cons.mpr ⟨by simp, List.nodup_nil⟩, fun a ha b hb => ?_⟩
    rw [List.mem_singleton] at hb
    subst hb
    exact fun e => hs (e ▸ ha)
theorem mem_addAll {t : Sx} : ∀ {ps F : List Sx}, t ∈ addAll F ps ↔ t ∈ F ∨ t ∈ ps
  | [], F => by simp [addAll]
  | p :: ps, F => by
    show t ∈ addAll (addK F p) ps ↔ _
    rw [mem_addAll, mem_addK, List.mem_cons, or_assoc]
theorem nd_addAll : ∀ {ps F : List Sx}, F.Nodup → (addAll F ps).Nodup
  | [], F, h => h
  | p :: ps, F, h => nd_addAll (ps := ps) (F := addK F p) (nd_addK h)
/-- a dict whose values are all True -/
def sd (F : List Sx) : SV := F.map fun s => (s, V.bl true)
theorem sd_keys (F : List Sx) : (sd F).map (·.1) = F := by
  unfold sd
  rw [List.map_map]
  exact List.map_id' F
theorem sd_len (F : List Sx) : (sd F).length = F.length := List.length_map _
theorem sd_val (F : List Sx) (s : Sx) : valV (sd F) s = if s ∈ F then some (V.bl true) else none := by
  induction F with
  | nil => rfl
  | cons a F ih =>
    by_cases e : a = s
    · subst e
      rw [if_pos List.mem_cons_self]
      exact valV_pos (p := (a, V.bl true)) rfl
    · have := valV_neg (p := (a, V.bl true)) (r := sd F) (k := s) e
      rw [show sd (a :: F) = (a, V.bl true) :: sd F from rfl, this, ih]
      have hs : s ∈ a :: F ↔ s ∈ F := by
        rw [List.mem_cons]
        constructor
        · rintro (h | h)
          · exact absurd h.symm e
          · exact h
        · exact .inr
      by_cases h : s ∈ F
      · rw [if_pos h, if_pos (hs.mpr h)]
      · rw [if_neg h, if_neg fun z => h (hs.mp z)]
theorem sd_put (F : List Sx) (s : Sx) : putK (sd F) s (V.bl true) = sd (addK F s) := by
  unfold putK addK
  have a : ((sd F).any fun kv => decide (kv.1 = s)) = decide (s ∈ F) := by
    unfold sd
    rw [List.any_map]
    by_cases h : s ∈ F
    · rw [decide_eq_true h, List.any_eq_true]
      exact ⟨s, h, by simp⟩
    · rw [decide_eq_false h, List.any_eq_false]
      intro x hx q
      have : x = s := by simpa using q
      exact h (this ▸ hx)
  rw [a]
  by_cases h : s ∈ F
  · rw [decide_eq_true h, if_pos rfl, if_pos h]
    unfold sd
    rw [List.map_map]
    refine List.map_congr_left fun x _ => ?_
    by_cases e : x = s
    · subst e
      simp
    · simp [e]
  · rw [decide_eq_false h, if_neg (by simp), if_neg h]
    unfold sd
    rw [List.map_append]
    rfl
theorem sd_nodup {F : List Sx} (h : F.Nodup) : ((sd F).map (·.1)).Nodup := by rw [sd_keys]; exact h
theorem sd_all {F : List Sx} (h : ∀ s ∈ F, s ∈ all7) : ∀ p ∈ sd F, p.1 ∈ all7 := fun p hp => by
  unfold sd at hp
  obtain ⟨s, hs, rfl⟩ := List.mem_map.mp hp
  exact h s hs
theorem sd_get {F : List Sx} {H : Hp} {d : Addr} {y : V} {s : Sx} (h : Rd H d (.dT (km (sd F)))) (hs : IsS H y s) : DGet H d y (if s ∈ F then some (V.bl true) else none) := by
  rw [← sd_val]
  exact get_of h hs
end Sh
set_option Elab.async false
set_option linter.all false
set_option maxRecDepth 100000
set_option maxHeartbeats 4000000
namespace Sh
open PySem PySem.Spec PyProof.Rows L2
section
variable {P : Program} {w : World} {K : PySem.W.Frag} {mg : Str → Option Value} {base : Heap} {C CS CN CB : Addr}

/-! ### is_integer, is_in, is_list -/
def spInteger : Sp := fun vs H Q _ => ∃ i, vs = [.int i] ∧ Q (.bl true) H
theorem sc_integer : FnScope ["value"] ["value"] (defScope (top 1)) := ⟨rfl, rfl, rfl, by decide +kernel, rfl, by decide +kernel, by decide +kernel⟩
theorem ok_is_integer (T : Tx K mg C CS CN CB) : Cal P w K mg base CX0 1 "is_integer" spInteger := by
  refine T.d_is_integer.cal sc_integer (fun vs H Q E h => ?_) (fun f cdv A outer s H vs Q E hr h => ?_)
  · obtain ⟨i, rfl, _⟩ := h
    rfl
  · obtain ⟨i, rfl, k⟩ := h
    refine ⟨_, pss_one (ps_ret (pe_and (pe_callB call_is (by rfl) T.n_isinstance (by decide +kernel) (pa_cons (pv 0) (pa_cons (pe_ty "int" T.n_int) pa_nil)))
      (pe_one (pe_not (pe_callB call_is (by rfl) T.n_isinstance (by decide +kernel) (pa_cons (pv 0) (pa_cons (pe_ty "bool" T.n_bool) pa_nil))))))), ?_⟩
    refine ⟨_, rfl, _, _, _, true, rfl, ty_int i, kit_ty (by decide +kernel), true, rfl, ?_⟩
    refine iteT ?_
    exact ⟨_, rfl, _, _, _, false, rfl, ty_int i, kit_ty (by decide +kernel), false, rfl, k⟩

def spIn : Sp := fun vs H Q _ => ∃ i a b, vs = [.int i, .int a, .int b] ∧ Q (.bl (decide (a ≤ i) && decide (i ≤ b))) H
theorem sc_in : FnScope ["value", "least", "most"] ["value", "least", "most"] (defScope (top 2)) := ⟨rfl, rfl, rfl, by decide +kernel, rfl, by decide +kernel, by decide +kernel⟩
theorem ok_is_in (T : Tx K mg C CS CN CB) : Cal P w K mg base CX0 2 "is_in" spIn := by
  refine T.d_is_in.cal sc_in (fun vs H Q E h => ?_) (fun f cdv A outer s H vs Q E hr h => ?_)
  · obtain ⟨i, a, b, rfl, _⟩ := h
    rfl
  · obtain ⟨i, a, b, rfl, k⟩ := h
    refine ⟨_, pss_one (ps_ret (pe_and (pe_c (ok_is_integer T) hr (by decide) pass0 (pa_cons (pv 0) pa_nil)) (pe_one (pe_chain op_le op_le (pv 1) (pv 0) (pv 2))))), ?_⟩
    refine ⟨_, rfl, i, rfl, true, rfl, ?_⟩
    refine iteT ?_
    refine ⟨_, rfl, _, rfl, _, _, rfl, rfl, _, rfl, ?_⟩
    by_cases h1 : a ≤ i
    · rw [decide_eq_true h1] at k ⊢
      refine iteT ⟨_, rfl, _, _, rfl, rfl, ?_⟩
      rw [Bool.true_and] at k
      exact k
    · rw [decide_eq_false h1] at k ⊢
      exact iteF k

/-- a value that is no tuple: None or a list -/
def NoTup (H : Hp) (v : V) : Prop := v = .non ∨ ∃ l xs, v = .ref l ∧ H l = some (.lst xs)
def spList : Sp := fun vs H Q _ => ∃ v a b, vs = [v, .int a, .int b] ∧
  ((∃ xs, IsT H v xs ∧ Q (.bl (decide (a ≤ (xs.length : Int)) && decide ((xs.length : Int) ≤ b))) H) ∨ (NoTup H v ∧ Q (.bl false) H))
theorem sc_list : FnScope ["value", "least", "most"] ["value", "least", "most"] (defScope (top 3)) := ⟨rfl, rfl, rfl, by decide +kernel, rfl, by decide +kernel, by decide +kernel⟩
theorem ok_is_list (T : Tx K mg C CS CN CB) : Cal P w K mg base CX0 1 "is_list" spList := by
  refine T.d_is_list.cal sc_list (fun vs H Q E h => ?_) (fun f cdv A outer s H vs Q E hr h => ?_)
  · obtain ⟨v, a, b, rfl, _⟩ := h
    rfl
  · obtain ⟨v, a, b, rfl, k⟩ := h
    refine ⟨_, pss_one (ps_ret (pe_and (pe_callB call_is (by rfl) T.n_isinstance (by decide +kernel) (pa_cons (pv 0) (pa_cons (pe_ty "tuple" T.n_tuple) pa_nil)))
      (pe_one (pe_chain op_le op_le (pv 1) (pe_callB call_len_seq (by rfl) T.n_len PySem.boot_len (pa_cons (pv 0) pa_nil)) (pv 2))))), ?_⟩
    rcases k with ⟨xs, hx, k⟩ | ⟨hx, k⟩
    · refine ⟨_, rfl, _, _, _, true, rfl, ty_tup hx, kit_ty (by decide +kernel), true, rfl, ?_⟩
      obtain ⟨p, rfl, hp⟩ := hx
      refine iteT ⟨_, rfl, _, rfl, p, xs, rfl, .inr (SqT.rd hp), _, _, rfl, rfl, _, rfl, ?_⟩
      by_cases h1 : a ≤ (xs.length : Int)
      · rw [decide_eq_true h1] at k ⊢
        refine iteT ⟨_, rfl, _, _, rfl, rfl, ?_⟩
        rw [Bool.true_and] at k
        exact k
      · rw [decide_eq_false h1] at k ⊢
        exact iteF k
    · rcases hx with rfl | ⟨l, xs, rfl, hl⟩
      · exact ⟨_, rfl, _, _, _, false, rfl, ty_non, kit_ty (by decide +kernel), false, rfl, iteF k⟩
      · exact ⟨_, rfl, _, _, _, false, rfl, ty_lst hl, kit_ty (by decide +kernel), false, rfl, iteF k⟩
end
end Sh
set_option Elab.async false
set_option linter.all false
set_option maxRecDepth 100000
set_option maxHeartbeats 4000000
namespace Sh
open PySem PySem.Spec PyProof.Rows L2 RZ
theorem all_zip {s : Sx} (h : s.Pairwise (· < ·)) : ∀ p ∈ s.zip (s.drop 1), p.1 < p.2 := by
  induction s with
  | nil => intro p hp; cases hp
  | cons a s ih =>
    cases s with
    | nil => intro p hp; cases hp
    | cons b s =>
      intro p hp
      rw [List.pairwise_cons] at h
      simp only [List.drop_succ_cons, List.drop_zero, List.zip_cons_cons, List.mem_cons] at hp
      rcases hp with rfl | hp
      · exact h.1 b List.mem_cons_self
      · refine ih h.2 p ?_
        simpa using hp
theorem evD_yes {te : TE} {σ : L2.St} {H : Hp} {R : V → Hp → Prop} (h : ∀ H1, Ex H H1 → ∀ Q : VK, (∀ v H2, Ex H1 H2 → R v H2 → Q v H2) → te σ H1 Q) : EvD te σ H R := h
section
variable {P : Program} {w : World} {K : PySem.W.Frag} {mg : Str → Option Value} {base : Heap} {C CS CN CB : Addr}

/-! ### is_ascending, is_simplex -/
def spAsc : Sp := fun vs H Q _ => ∃ v s, vs = [v, .int 1, .int 8] ∧ IsS H v s ∧ Good s ∧ ∀ H', Ex H H' → Q (.bl true) H'
theorem sc_ascending : FnScope ["value", "least", "most", "vertex", "one", "other"] ["value", "least", "most"] (defScope (top 15)) := ⟨rfl, rfl, rfl, by decide +kernel, rfl, by decide +kernel, by decide +kernel⟩
theorem ok_is_ascending (T : Tx K mg C CS CN CB) : Cal P w K mg base CX0 3 "is_ascending" spAsc := by
  refine T.d_is_ascending.cal sc_ascending (fun vs H Q E h => ?_) (fun f cdv A outer s H vs Q E hr h => ?_)
  · obtain ⟨v, x, rfl, _⟩ := h
    rfl
  · obtain ⟨v, x, rfl, hx, hg, k⟩ := h
    obtain ⟨tv, hv⟩ := T.c_vertex
    refine ⟨_, pss_cons (ps_if (PW.pt (pw_or (pt_not (pt_val (pe_c (ok_is_list T) hr (by decide) pass0 (pa_cons (pv 0) (pa_cons (pv 1) (pa_cons (pv 2) pa_nil))))))
        (pw_or1 (pt_not (pt_val (pe_callB (cr_all rfl) (by rfl) T.n_all (by decide +kernel) (pa_cons (pe_lc (own := [("vertex", 3)]) (g := gName 3) (tt := tYes) rfl sc_ascending.nd (pi_tup (pv 0))
          (blkOk_by (N := ["value", "least", "most", "vertex", "one", "other"]) (sc := defScope (top 15)) (by decide +kernel)) (fun _ _ _ _ _ => pg_name (i := 3) sc_ascending.nd rfl (Or.inl rfl)) (fun _ _ _ _ _ => pts_nil)
          (fun _ _ _ _ _ => pe_c (ok_is_in T) hr (by decide) pass0 (pa_cons (pv 3) (pa_cons pe_int (pa_cons (pe_glob (v := .int 30) rfl hv ⟨tv, rfl⟩) pa_nil))))) pa_nil)))))))
        (pss_one (ps_ret pe_bl)) pss_nil)
      (pss_one (ps_ret (pe_callB (cr_all rfl) (by rfl) T.n_all (by decide +kernel) (pa_cons (pe_lc (own := [("one", 4), ("other", 5)]) (g := gTup K 2 (gCons (gName 4) (gCons (gName 5) gNil))) (tt := tYes) rfl sc_ascending.nd
          (pi_zipA (by rfl) T.n_zip (pa_cons (pv 0) (pa_cons (pe_slice sl_G (pv 0) (po_some pe_int) po_none) pa_nil)))
          (blkOk_by (N := ["value", "least", "most", "vertex", "one", "other"]) (sc := defScope (top 15)) (by decide +kernel))
          (fun _ _ _ _ _ => pg_tup rfl (pgs_cons (pg_name (i := 4) sc_ascending.nd rfl (Or.inl rfl)) (pgs_cons (pg_name (i := 5) sc_ascending.nd rfl (Or.inl rfl)) pgs_nil))) (fun _ _ _ _ _ => pts_nil)
          (fun _ _ _ _ _ => pe_cmpR op_lt (pv 4) (pv 5) (nomark _))) pa_nil)))), ?_⟩
    obtain ⟨a, rfl, ha⟩ := id hx
    obtain ⟨hn, h8, hp, hr30⟩ := hg
    have hlen : (x.map V.int).length = x.length := List.length_map _
    have hpos : 0 < x.length := List.length_pos_iff.mpr hn
    refine ⟨_, rfl, _, rfl, _, rfl, _, _, _, rfl, .inl ⟨_, hx.d.t, true, ?_, ?_⟩⟩
    · rw [hlen]
      rw [decide_eq_true (by omega), decide_eq_true (by omega)]
      rfl
    refine iteF ?_
    refine ⟨_, rfl, a, rfl, ⟨_, SqT.of ha⟩, ?_⟩
    intro D hD
    refine lcD_tup hD kI kB (fun _ => some true) (.inl ha) (pr_ints H x) (by omega) (by intros; rfl) (fun _ _ _ _ _ _ => evb_yes) (fun y b c H1 e1 hy hb hc => ?_) (fun H1 e1 hL => ?_)
    · cases hc
      have hy : y = V.int b := hy
      subst hy
      refine fun H2 e2 Q q => ⟨_, rfl, b, 0, 30, rfl, ?_⟩
      have := hr30 b hb
      rw [decide_eq_true this.1, decide_eq_true this.2]
      exact q _ _ (Ex.refl _) rfl
    obtain ⟨l, el, hl⟩ := hL.bls (K := K)
    refine ⟨l, _, by rw [el], hl, true, ?_, iteF ?_⟩
    · congr 1
      rw [List.all_eq_true]
      intro b hb
      obtain ⟨z, _, ez⟩ := List.mem_filterMap.mp hb
      cases ez
      rfl
    -- all(one < other ..)
    refine ⟨_, rfl, _, rfl, _, rfl, _, ⟨a, rfl, .inl (e1 _ _ ha)⟩, fun v2 H2 e2 h2 => ?_⟩
    have hcut : cutV (x.map V.int) (some 1) none = (x.drop 1).map V.int := by
      rw [show (1 : Int) = ((1 : Nat) : Int) from rfl, cut_post _ 1 (by omega), List.map_drop]
    rw [hcut] at h2
    obtain ⟨a2, rfl, ha2⟩ := h2
    have ha' : H2 a = some (.tup (x.map V.int)) := e2 _ _ (e1 _ _ ha)
    refine ⟨a, a2, _, _, rfl, .inr ⟨SqT.of ha', SqT.rd ha2, ?_⟩⟩
    intro D' hD'
    refine lcD_zip hD' kI kB (fun p => some (decide (p.1 < p.2))) (.inl ha') (pr_ints H2 x) ha2 (pr_ints H2 _) (by omega) (by intros; rfl) (fun _ _ _ _ _ _ _ _ => evb_yes) (fun y z b c H3 e3 hy hz hb hc => ?_) (fun H3 e3 hL => ?_)
    · cases hc
      have hy : y = V.int b.1 := hy
      have hz : z = V.int b.2 := hz
      subst hy hz
      exact fun H2 e2 Q q => ⟨_, rfl, _, rfl, _, _, rfl, rfl, q _ _ (Ex.refl _) rfl⟩
    obtain ⟨l, el, hl⟩ := hL.bls (K := K)
    refine ⟨l, _, by rw [el], hl, ?_⟩
    have e : ((x.zip (x.drop 1)).filterMap fun p => some (decide (p.1 < p.2))).all id = true := by
      rw [List.all_eq_true]
      intro b hb
      obtain ⟨z, hz, ez⟩ := List.mem_filterMap.mp hb
      cases ez
      exact decide_eq_true (all_zip hp z hz)
    rw [e]
    exact k _ ((e1.trans e2).trans e3)

def spSimplex : Sp := fun vs H Q _ => ∃ v s, vs = [v] ∧ IsS H v s ∧ Good s ∧ ∀ H', Ex H H' → Q (.bl true) H'
theorem sc_simplex : FnScope ["value"] ["value"] (defScope (top 16)) := ⟨rfl, rfl, rfl, by decide +kernel, rfl, by decide +kernel, by decide +kernel⟩
theorem ok_is_simplex (T : Tx K mg C CS CN CB) : Cal P w K mg base CX0 4 "is_simplex" spSimplex := by
  refine T.d_is_simplex.cal sc_simplex (fun vs H Q E h => ?_) (fun f cdv A outer s H vs Q E hr h => ?_)
  · obtain ⟨v, x, rfl, _⟩ := h
    rfl
  · obtain ⟨v, x, rfl, hx, hg, k⟩ := h
    obtain ⟨tl, hl⟩ := T.c_length
    refine ⟨_, pss_one (ps_ret (pe_c (ok_is_ascending T) hr (by decide) pass0 (pa_cons (pv 0) (pa_cons pe_int (pa_cons (pe_glob (v := .int 8) rfl hl ⟨tl, rfl⟩) pa_nil))))), ?_⟩
    exact ⟨_, rfl, v, x, rfl, hx, hg, k⟩
end
end Sh
set_option Elab.async false
set_option linter.all false
set_option maxRecDepth 100000
set_option maxHeartbeats 4000000
namespace Sh
open PySem PySem.Spec PyProof.Rows L2 RZ
section
variable {P : Program} {w : World} {K : PySem.W.Frag} {mg : Str → Option Value} {base : Heap} {C CS CN CB : Addr}
/-! ### parts_of -/
theorem parts_len2 : ∀ (r : List Int) (acc : List Sx), acc.length ≤ (r.foldl (fun acc v => acc ++ acc.map (· ++ [v])) acc).length
  | [], _ => Nat.le_refl _
  | v :: r, acc => by
    refine Nat.le_trans ?_ (parts_len2 r (acc ++ acc.map (· ++ [v])))
    rw [List.length_append]
    omega
theorem fm_map {α β : Type} (f : α → β) (l : List α) : l.filterMap (fun x => some (f x)) = l.map f := by
  rw [← List.filterMap_eq_map]
  rfl
def spParts : Sp := fun vs H Q _ => ∃ v s, vs = [v] ∧ IsS H v s ∧ s ∈ all7 ∧ ∀ w H', Ex H H' → LsD kS H' w (parts s) → Q w H'
theorem sc_parts : FnScope ["simplex", "found", "vertex", "part"] ["simplex"] (defScope (top 17)) := ⟨rfl, rfl, rfl, by decide +kernel, rfl, by decide +kernel, by decide +kernel⟩
theorem ok_parts (T : Tx K mg C CS CN CB) : Cal P w K mg base CX0 1 "parts_of" spParts := by
  refine T.d_parts_of.cal sc_parts (fun vs H Q E h => ?_) (fun f cdv A outer s H vs Q E hr h => ?_)
  · obtain ⟨v, x, rfl, _⟩ := h
    rfl
  · obtain ⟨v, x, rfl, hx, h7, k⟩ := h
    refine ⟨_, pss_cons (ps_set (i := 1) sc_parts.nd rfl (Or.inl rfl) (pe_lst (pa_cons (pe_tup pa_nil) pa_nil)))
      (pss_cons (ps_for PassesOwn.never rfl (pi_tup (pv 0)) (pg_name (i := 2) sc_parts.nd rfl (Or.inr rfl)) (pss_one (ps_expr (pe_bm PySem.F.plainAttrs_list PySem.F.slot_list_extend PySem.F.type_list_extend mt_extend (pv 1)
        (pa_cons (pe_lc (own := [("part", 3)]) (g := gName 3) (tt := tYes) (te := tTup (StX.tStar K (tVar 3) (tCons (tVar 2) tNil))) rfl sc_parts.nd (pi_list (pv 1)) (blkOk_by (N := ["simplex", "found", "vertex", "part"]) (sc := defScope (top 17)) (by decide +kernel))
          (fun _ _ _ _ _ => pg_name (i := 3) sc_parts.nd rfl (Or.inl rfl)) (fun _ _ _ _ _ => pts_nil) (fun _ _ _ _ _ => pe_tup (StX.pa_star (pv 3) (pa_cons (pv 2) pa_nil)))) pa_nil)))))
      (pss_one (ps_ret (pe_slice sl_list (pv 1) (po_some pe_int) po_none)))), ?_⟩
    obtain ⟨a, rfl, ha⟩ := id hx
    refine ⟨Nat.zero_le _, fun t ht => ⟨by show 1 ≤ sizeLine; decide, fun l hl => ?_⟩⟩
    have e0 : Ex H (upd H t (.tup [])) := Ex.new ht
    have hl0 := e0.back hl
    refine ⟨_, rfl, a, rfl, ⟨_, SqT.of ((e0.trans (Ex.new hl)) _ _ ha)⟩, ?_⟩
    refine forR_tup kI (pr_ints _ x) (fun r σ H' => TEx (upd (upd H t (.tup [])) l (.lst [.ref t])) H' ∧ Ex H H' ∧ ∃ o1 o2 vs acc, σ = [some (V.ref a), some (V.ref l), o1, o2] ∧ H' l = some (.lst vs) ∧ Paired (kS.R H') vs acc ∧ r.foldl (fun acc v => acc ++ acc.map (· ++ [v])) acc = parts0 x ∧ ∀ p ∈ acc, p.length + r.length ≤ x.length)
      ⟨TEx.refl _, e0.trans (Ex.new hl), none, none, [V.ref t], [[]], rfl, upd_same, .cons ⟨t, rfl, by rw [upd_ne (ne_of_none (o := .tup []) upd_same hl), upd_same]; rfl⟩ .nil, rfl, fun p hp => by rw [List.mem_singleton.mp hp]; simp⟩ (fun r σ H' p => ?_) ?_ ?_
    · obtain ⟨et, e, o1, o2, vs, acc, rfl, hv, hp, hf, _⟩ := p
      exact ⟨et, SqT.of (e _ _ ha)⟩
    · rintro b r y σ H' hy hb ⟨et, e, o1, o2, vs, acc, rfl, hv, hp, hf, hk⟩
      have hy : y = V.int b := hy
      subst hy
      have hsz : acc.length ≤ 128 := Nat.le_trans (parts_len2 (b :: r) acc) (by rw [hf]; exact a7_parts_len x h7)
      have hsz2 : (acc ++ acc.map (· ++ [b])).length ≤ 128 := Nat.le_trans (parts_len2 r (acc ++ acc.map (· ++ [b]))) (by
        have : r.foldl (fun acc v => acc ++ acc.map (· ++ [v])) (acc ++ acc.map (· ++ [b])) = parts0 x := hf
        rw [this]
        exact a7_parts_len x h7)
      refine ⟨_, rfl, .inl ⟨rfl, _, SqL.of hv⟩, _, rfl, l, rfl, ⟨_, SqL.of hv⟩, fun D hD => ?_⟩
      refine lcD_lst hD kS kS (fun p => some (p ++ [b])) hv hp (by omega) (by intros; rfl) (fun _ _ _ _ _ _ => evb_yes) (fun z p c H1 e1 hz hb hc => ?_) (fun H1 e1 hL => ?_)
      · cases hc
        intro H2 e2 Q q
        obtain ⟨ap, rfl, hap⟩ := hz.mono e2.t
        refine ⟨_, rfl, ap, _, rfl, .inl (SqT.of hap), _, rfl, ?_⟩
        have h7' : (p.map V.int ++ [V.int b]).length ≤ sizeLine := by
          have h1 := hk p hb
          have h2 := a7_len h7
          rw [List.length_append, List.length_map, sizeLine_eq]
          show p.length + 1 ≤ _
          omega
        exact ⟨h7', fun q0 hq0 => q _ _ (Ex.new hq0) ⟨q0, rfl, by rw [upd_same, List.map_append]; rfl⟩⟩
      · rw [fm_map] at hL
        obtain ⟨D', zs, rfl', hz, hzp⟩ := hL
        cases rfl'
        have hv1 := e1 _ _ hv
        have hl3 := pr_len hzp
        have hl4 := pr_len hp
        rw [List.length_append, List.length_map] at hsz2
        rw [List.length_map] at hl3
        refine ⟨l, D, vs, zs, rfl, rfl, hv1, hz, ?_, ?_⟩
        · rw [sizeLine_eq]
          omega
        have et2 := (et.trans e1.t).trans (TEx.wrL hv1 (o := .lst (vs ++ zs)))
        refine ⟨et2, Ex.mut (e.trans e1) hl0, some (V.int b), o2, vs ++ zs, acc ++ acc.map (· ++ [b]), rfl, upd_same, pr_append (pr_kmono kS (e1.t.trans (TEx.wrL hv1)) hp) (pr_kmono kS (TEx.wrL hv1) hzp), hf, fun p hp => ?_⟩
        rcases List.mem_append.mp hp with h | h
        · have := hk p h
          rw [List.length_cons] at this
          omega
        · obtain ⟨p', hp', rfl⟩ := List.mem_map.mp h
          have := hk p' hp'
          rw [List.length_cons] at this
          rw [List.length_append]
          show p'.length + 1 + r.length ≤ _
          omega
    · rintro σ H' ⟨et, e, o1, o2, vs, acc, rfl, hv, hp, hf, _⟩
      have hf : acc = parts0 x := hf
      refine ⟨_, rfl, _, rfl, l, vs, rfl, SqL.of hv, fun p0 hp0 => k _ _ (e.trans (Ex.new hp0)) ⟨p0, _, rfl, by rw [upd_same], ?_⟩⟩
      have hne : 1 ≤ vs.length := by
        rw [pr_len hp, hf]
        exact parts_len2 x [[]]
      rw [show (1 : Int) = ((1 : Nat) : Int) from rfl, cut_post _ 1 hne]
      show Paired _ _ ((parts0 x).drop 1)
      rw [← hf]
      exact pr_drop 1 (pr_kmono kS (Ex.new hp0).t hp)
end
end Sh
set_option Elab.async false
set_option linter.all false
set_option maxRecDepth 100000
set_option maxHeartbeats 4000000
namespace Sh
open PySem PySem.Spec PyProof.Rows L2 RZ
section
variable {P : Program} {w : World} {K : PySem.W.Frag} {mg : Str → Option Value} {base : Heap} {C CS CN CB : Addr}
/-! ### generated -/
theorem addAll_nd7 {F ps : List Sx} (hn : F.Nodup) (h7 : ∀ s ∈ F, s ∈ all7) (hp : ∀ s ∈ ps, s ∈ all7) : (addAll F ps).Nodup ∧ ∀ s ∈ addAll F ps, s ∈ all7 :=
  ⟨nd_addAll hn, fun s hs => (mem_addAll.mp hs).elim (h7 s) (hp s)⟩
theorem genStep_nd7 {F : List Sx} {b : Sx} (hn : F.Nodup) (h7 : ∀ s ∈ F, s ∈ all7) (hb : b ∈ all7) : (genStep F b).Nodup ∧ ∀ s ∈ genStep F b, s ∈ all7 := by
  unfold genStep
  split
  · exact ⟨hn, h7⟩
  · exact addAll_nd7 hn h7 fun s hs => (a7_parts hb hs).1
def spGen : Sp := fun vs H Q _ => ∃ v ts, vs = [v] ∧ SeqD kS H v ts ∧ (∀ s ∈ ts, s ∈ all7) ∧ ∀ d H', Ex H H' → H d = none → DtAt H' d (sd (gen ts)) → Q (.ref d) H'
theorem sc_gen : FnScope ["simplices", "found", "simplex", "part"] ["simplices"] (defScope (top 18)) := ⟨rfl, rfl, rfl, by decide +kernel, rfl, by decide +kernel, by decide +kernel⟩
theorem ok_gen (T : Tx K mg C CS CN CB) : Cal P w K mg base CX0 2 "generated" spGen := by
  refine T.d_generated.cal sc_gen (fun vs H Q E h => ?_) (fun f cdv A outer s H vs Q E hr h => ?_)
  · obtain ⟨v, x, rfl, _⟩ := h
    rfl
  · obtain ⟨v, ts, rfl, hx, h7, k⟩ := h
    have hu : (A.deeper (envOfC "generated" (defScope (top 18)) s.heap.objs.size f cdv)).units + 64 < cLine := hr.units
    obtain ⟨tf, hf⟩ := T.c_faces
    refine ⟨_, pss_cons (ps_set (i := 1) sc_gen.nd rfl (Or.inl rfl) pe_dnewT)
      (pss_cons (ps_for PassesOwn.never rfl (pi_any (pv 0)) (pg_name (i := 2) sc_gen.nd rfl (Or.inl rfl))
        (pss_one (ps_if (pt_cmp (pc_dnotin (by show (A.deeper _).units + 1 < cLine; omega) (pv 2) (pv 1)))
          (pss_cons (ps_for PassesOwn.never rfl (pi_list (pe_c (ok_parts T) hr (by decide) pass0 (pa_cons (pv 2) pa_nil))) (pg_name (i := 3) sc_gen.nd rfl (Or.inl rfl))
            (pss_one (ps_dput (by show (A.deeper _).units + 1 < cLine; omega) (pv 1) (pv 3) pe_bl rfl)))
          (pss_one (ps_if (pt_cmpR op_gt (pe_callB call_len_dT (by rfl) T.n_len PySem.boot_len (pa_cons (pv 1) pa_nil)) (pe_glob (v := .int 400) rfl hf ⟨tf, rfl⟩) (nomark _)) pss_never pss_nil)))
          pss_nil)))
      (pss_one (ps_ret (pv 1)))), ?_⟩
    obtain ⟨a, xs, rfl, ha, hp⟩ := hx.at
    intro d hd
    have e0 : Ex H (upd H d (.dT [])) := Ex.new hd
    refine ⟨_, rfl, a, xs, rfl, ?_, fun J hJ => ?_⟩
    · rcases ha with ha | ha
      · exact .inl (e0 _ _ ha)
      · exact .inr (e0.t.rd ha)
    refine forR_any kS hJ (pr_kmono kS e0.t hp) (fun r σ H' => TEx (upd H d (.dT [])) H' ∧ Ex H H' ∧ ∃ o1 o2 F, σ = [some (V.ref a), some (V.ref d), o1, o2] ∧ DtAt H' d (sd F) ∧ F.Nodup ∧ (∀ s ∈ F, s ∈ all7) ∧ r.foldl genStep F = gen ts)
      ⟨TEx.refl _, e0, none, none, [], rfl, upd_same, List.nodup_nil, (fun s hs => by cases hs), rfl⟩ (fun r σ H' p => ?_) ?_ ?_
    · obtain ⟨et, e, _⟩ := p
      refine ⟨et, fun hl => ?_⟩
      rcases ha with ha | ha | ⟨o, ha⟩
      · have := e0 _ _ ha
        rw [this] at hl
        cases hl
        exact e _ _ ha
      · have := e0 _ _ ha
        rw [this] at hl
        cases hl
      · have := e0 _ _ ha
        rw [this] at hl
        cases hl
    · rintro b r y σ H' hy hb ⟨et, e, o1, o2, F, rfl, hv, hn, hF7, hf⟩
      refine ⟨_, rfl, _, rfl, d, _, rfl, sd_get (.inl hv) hy, _, rfl, ?_⟩
      have hb7 := h7 b hb
      by_cases hm : b ∈ F
      · rw [if_pos hm]
        refine iteF ⟨et, e, _, o2, F, rfl, hv, hn, hF7, ?_⟩
        have hf : r.foldl genStep (genStep F b) = gen ts := hf
        unfold genStep at hf
        rw [if_pos hm] at hf
        exact hf
      · rw [if_neg hm]
        refine iteT ⟨_, rfl, y, b, rfl, hy, hb7, fun w1 H1 e1 hL => ?_⟩
        obtain ⟨l, vs, rfl, hl, hpl⟩ := hL
        refine ⟨l, rfl, ⟨_, SqL.of hl⟩, ?_⟩
        have hst := genStep_nd7 hn hF7 hb7
        have hste : genStep F b = addAll F (parts b) := by unfold genStep; rw [if_neg hm]
        rw [hste] at hst
        have hf : r.foldl genStep (genStep F b) = gen ts := hf
        rw [hste] at hf
        refine forR_lst kS hpl (fun r2 σ H2 => TEx H1 H2 ∧ Ex H H2 ∧ H2 l = some (.lst vs) ∧ ∃ o2 G, σ = [some (V.ref a), some (V.ref d), some y, o2] ∧ DtAt H2 d (sd G) ∧ G.Nodup ∧ (∀ s ∈ G, s ∈ all7) ∧ addAll G r2 = addAll F (parts b))
          ⟨TEx.refl _, e.trans e1, hl, o2, F, rfl, e1 _ _ hv, hn, hF7, rfl⟩ (fun r σ H' p => ⟨p.1, SqL.of p.2.2.1⟩) ?_ ?_
        · rintro c r2 z σ H2 hz hc ⟨et2, e2, hl2, o3, G, rfl, hv2, hnG, hG7, hfG⟩
          have hlG := nd7_len hnG hG7
          refine ⟨_, rfl, _, rfl, d, _, rfl, put_of hv2 hz (by rw [sd_len]; omega), ?_⟩
          rw [sd_put]
          have hne : l ≠ d := fun q => by
            rw [q] at hl2
            have hv2' : H2 d = some (.dT (km (sd G))) := hv2
            rw [hv2'] at hl2
            cases hl2
          refine ⟨et2.trans (TEx.wrT hv2), Ex.mut e2 hd, by rw [upd_ne hne]; exact hl2, _, addK G c, rfl, upd_same, nd_addK hnG, fun s hs => ?_, hfG⟩
          rcases mem_addK.mp hs with h | rfl
          · exact hG7 s h
          · exact (a7_parts hb7 hc).1
        · rintro σ H2 ⟨et2, e2, hl2, o3, G, rfl, hv2, hnG, hG7, hfG⟩
          have hfG : G = addAll F (parts b) := hfG
          have hlG := nd7_len hnG hG7
          refine ⟨_, rfl, d, _, rfl, hv2, _, _, rfl, rfl, _, rfl, ?_⟩
          have hlen : ((km (sd G)).length : Int) ≤ 128 := by
            rw [km_len, sd_len]
            omega
          rw [decide_eq_false (by omega)]
          refine iteF ⟨et.trans (e1.t.trans et2), e2, _, o3, G, rfl, hv2, hnG, hG7, ?_⟩
          rw [hfG]
          exact hf
    · rintro σ H' ⟨et, e, o1, o2, F, rfl, hv, hn, hF7, hf⟩
      have hf : F = gen ts := hf
      rw [hf] at hv
      exact ⟨_, rfl, k d H' e hd hv⟩
end
end Sh
set_option Elab.async false
set_option linter.all false
set_option maxRecDepth 100000
set_option maxHeartbeats 4000000
namespace Sh
open PySem PySem.Spec PyProof.Rows L2 RZ
section
variable {P : Program} {w : World} {K : PySem.W.Frag} {mg : Str → Option Value} {base : Heap} {C CS CN CB : Addr}
/-! ### rows that can be sorted -/
theorem alikeI : ∀ b c : List Int, PySem.W.alikeAll (b.map PyData.int) (c.map PyData.int) = true
  | [], [] => by simp [PySem.W.alikeAll]
  | [], _ :: _ => by simp [PySem.W.alikeAll]
  | _ :: _, [] => by simp [PySem.W.alikeAll]
  | a :: b, c :: d => by
    simp only [List.map_cons, PySem.W.alikeAll, Bool.and_eq_true]
    exact ⟨by simp [PySem.W.alike], alikeI b d⟩
theorem alike_S (b c : Sx) : PySem.W.alike (kS.enc b) (kS.enc c) = true := by
  show PySem.W.alike (.tuple (b.map .int)) (.tuple (c.map .int)) = true
  simp only [PySem.W.alike]
  exact alikeI b c
theorem alike_P (b c : Sx × Sx) : PySem.W.alike (kP.enc b) (kP.enc c) = true := by
  show PySem.W.alike (.tuple [kS.enc b.1, kS.enc b.2]) (.tuple [kS.enc c.1, kS.enc c.2]) = true
  simp only [PySem.W.alike, PySem.W.alikeAll, alike_S, Bool.and_true]
theorem alike_L (b c : Int × Sx) : PySem.W.alike (kL.enc b) (kL.enc c) = true := by
  show PySem.W.alike (.tuple [.int b.1, kS.enc b.2]) (.tuple [.int c.1, kS.enc c.2]) = true
  simp only [PySem.W.alike, PySem.W.alikeAll, alike_S, Bool.and_true]
theorem all_alike {β : Type} {k : Kd β} (h : ∀ b c, PySem.W.alike (k.enc b) (k.enc c) = true) (bs : List β) : PySem.W.AllAlike (bs.map k.enc) := by
  intro d hd d' hd'
  obtain ⟨b, _, rfl⟩ := List.mem_map.mp hd
  obtain ⟨c, _, rfl⟩ := List.mem_map.mp hd'
  exact h b c
theorem sortable_S {bs : List Sx} (h : ∀ s ∈ bs, s ≠ []) : PySem.W.Sortable (bs.map kS.enc) := by
  refine .inl fun d hd => ?_
  obtain ⟨b, hb, rfl⟩ := List.mem_map.mp hd
  cases b with
  | nil => exact absurd rfl (h _ hb)
  | cons a r => exact ⟨.int a, r.map .int, rfl⟩
theorem sortable_P (bs : List (Sx × Sx)) : PySem.W.Sortable (bs.map kP.enc) := by
  refine .inl fun d hd => ?_
  obtain ⟨b, hb, rfl⟩ := List.mem_map.mp hd
  exact ⟨_, _, rfl⟩
theorem sortable_L (bs : List (Int × Sx)) : PySem.W.Sortable (bs.map kL.enc) := by
  refine .inl fun d hd => ?_
  obtain ⟨b, hb, rfl⟩ := List.mem_map.mp hd
  exact ⟨_, _, rfl⟩
theorem fm_filter {α : Type} (p : α → Bool) (l : List α) : l.filterMap (fun x => if p x = true then some x else none) = l.filter p := by
  induction l with
  | nil => rfl
  | cons a l ih =>
    rw [List.filterMap_cons, List.filter_cons, ih]
    cases h : p a <;> simp
theorem ite_some {α : Type} {p : Bool} {x y : α} (h : (if p = true then some x else none) = some y) : p = true ∧ x = y := by
  cases p with
  | true => exact ⟨rfl, Option.some.inj h⟩
  | false => cases h
theorem ite_isSome {α : Type} {p : Bool} {x : α} : (if p = true then some x else none).isSome = p := by
  cases p <;> rfl

/-! ### maximal -/
theorem innerOf_nd7 {r I : List Sx} (hn : I.Nodup) (h7 : ∀ s ∈ I, s ∈ all7) (hr : ∀ s ∈ r, s ∈ all7) : (r.foldl (fun I s => addAll I (facesOf s)) I).Nodup ∧ ∀ s ∈ r.foldl (fun I s => addAll I (facesOf s)) I, s ∈ all7 := by
  induction r generalizing I with
  | nil => exact ⟨hn, h7⟩
  | cons b r ih =>
    have := addAll_nd7 hn h7 (ps := facesOf b) fun s hs => by
      unfold facesOf at hs
      obtain ⟨i, hi, rfl⟩ := List.mem_map.mp hs
      exact a7_erase (hr b List.mem_cons_self) (List.mem_range.mp hi)
    exact ih this.1 this.2 fun s hs => hr s (List.mem_cons_of_mem _ hs)
theorem facesOf_drop {b : Sx} {i : Nat} (h : i < b.length) : (facesOf b).drop i = b.eraseIdx i :: (facesOf b).drop (i + 1) := by
  refine drop_cons ?_
  unfold facesOf
  rw [List.getElem?_map, List.getElem?_range h]
  rfl
theorem facesOf_end (b : Sx) : (facesOf b).drop b.length = [] := List.drop_eq_nil_of_le (by unfold facesOf; rw [List.length_map, List.length_range]; exact Nat.le_refl _)
def spMax : Sp := fun vs H Q _ => ∃ d F, vs = [.ref d] ∧ DtAt H d (sd F) ∧ FOk F ∧ ∀ w H', Ex H H' → (kTp kS).R H' w (maxl F) → Q w H'
theorem sc_max : FnScope ["faces", "inner", "simplex", "at"] ["faces"] (defScope (top 19)) := ⟨rfl, rfl, rfl, by decide +kernel, rfl, by decide +kernel, by decide +kernel⟩
theorem ok_maximal (T : Tx K mg C CS CN CB) : Cal P w K mg base CX0 1 "maximal" spMax := by
  refine T.d_maximal.cal sc_max (fun vs H Q E h => ?_) (fun f cdv A outer s H vs Q E hr h => ?_)
  · obtain ⟨v, x, rfl, _⟩ := h
    rfl
  · obtain ⟨df, F, rfl, hF, ok, k⟩ := h
    have hu : (A.deeper (envOfC "maximal" (defScope (top 19)) s.heap.objs.size f cdv)).units + 64 < cLine := hr.units
    refine ⟨_, pss_cons (ps_set (i := 1) sc_max.nd rfl (Or.inr rfl) pe_dnewT)
      (pss_cons (ps_lock (ps_for PassesOwn.never rfl (pi_keys (pv 0)) (pg_name (i := 2) sc_max.nd rfl (Or.inl rfl))
        (pss_one (ps_for PassesOwn.never rfl (pi_range1 rfl T.n_range (pa_cons (pe_callB call_len_seq (by rfl) T.n_len PySem.boot_len (pa_cons (pv 2) pa_nil)) pa_nil)) (pg_name (i := 3) sc_max.nd rfl (Or.inl rfl))
          (pss_one (ps_dput (by show (A.deeper _).units + 1 < cLine; omega) (pv 1) (pe_op op_catD (pe_slice sl_D (pv 2) po_none (po_some (pv 3))) (pe_slice sl_D (pv 2) (po_some (pe_op op_add (pv 3) pe_int)) po_none)) pe_bl rfl))))))
      (pss_one (ps_ret (pe_callTy call_tupD (by rfl) T.n_tuple (by decide +kernel) (pa_cons (pe_callB (cr_sortK kS hu) (by rfl) T.n_sorted (by decide +kernel)
        (pa_cons (pe_lock (pe_lc (own := [("simplex", 2)]) (g := gName 2) (te := tVar 2) rfl sc_max.nd (pi_keys (pv 0)) (blkOk_by (N := ["faces", "inner", "simplex", "at"]) (sc := defScope (top 19)) (by decide +kernel))
          (fun _ _ _ _ _ => pg_name (i := 2) sc_max.nd rfl (Or.inl rfl)) (fun _ _ _ _ _ => pts_one (pt_cmp (pc_dnotin (by show (A.deeper _).units + 1 < cLine; omega) (pv 2) (pv 1)))) (fun _ _ _ _ _ => pv 2))) pa_nil)) pa_nil))))), ?_⟩
    intro d hd
    have e0 : Ex H (upd H d (.dT [])) := Ex.new hd
    have hF0 := e0 _ _ hF
    have hdf : d ≠ df := fun q => by
      rw [q] at hd
      have hF' : H df = some (.dT (km (sd F))) := hF
      rw [hF'] at hd
      cases hd
    refine ⟨df, _, hF0, mut_dT, fun od => ?_⟩
    have hlk := upd_same (H := upd H d (.dT [])) (a := df) (o := .frz od (.dT (km (sd F))))
    refine ⟨_, rfl, df, od, rfl, .inr ⟨_, hlk, ?_⟩⟩
    have hHL : TEx H (upd (upd H d (.dT [])) df (.frz od (.dT (km (sd F))))) := e0.t.trans (TEx.wrT hF0)
    refine forR_keys (kvs := sd F) (fun r σ H' => TEx (upd (upd H d (.dT [])) df (.frz od (.dT (km (sd F))))) H' ∧ H' df = some (.frz od (.dT (km (sd F)))) ∧ Ex H (upd H' df (.dT (km (sd F)))) ∧ ∃ o2 o3 I, σ = [some (V.ref df), some (V.ref d), o2, o3] ∧ DtAt H' d (sd I) ∧ I.Nodup ∧ (∀ s ∈ I, s ∈ all7) ∧ r.foldl (fun I s => addAll I (facesOf s)) I = innerOf F)
      ⟨TEx.refl _, hlk, Ex.unlock (od := od) hF (fun b o hb => ?_), none, none, [], rfl, (upd_ne hdf).trans upd_same, List.nodup_nil, (fun s hs => by cases hs), by rw [sd_keys]; rfl⟩ (fun r σ H' p => p.2.1) ?_ ?_
    · by_cases q : b = df
      · rw [q, upd_same] at hb
        rw [q, upd_same]
        exact hb
      · rw [upd_ne q] at hb ⊢
        exact e0 _ _ hb
    · rintro b r y σ H' hy hb ⟨et, hlk', e, o2, o3, I, rfl, hv, hn, hI7, hf⟩
      rw [sd_keys] at hb
      have hb7 := ok.a7 b hb
      have hbl := a7_len hb7
      obtain ⟨ya, rfl, hya⟩ := id hy
      refine ⟨_, rfl, ya, _, rfl, .inr (SqT.of hya), _, rfl, by omega, by rw [List.length_map]; omega, ?_⟩
      rw [List.length_map, Int.toNat_natCast]
      refine forR_rng (fun i σ H2 => TEx H' H2 ∧ H2 df = some (.frz od (.dT (km (sd F)))) ∧ Ex H (upd H2 df (.dT (km (sd F)))) ∧ ∃ o3 G, σ = [some (V.ref df), some (V.ref d), some (V.ref ya), o3] ∧ DtAt H2 d (sd G) ∧ G.Nodup ∧ (∀ s ∈ G, s ∈ all7) ∧ addAll G ((facesOf b).drop i) = addAll I (facesOf b))
        ⟨TEx.refl _, hlk', e, o3, I, rfl, hv, hn, hI7, rfl⟩ ?_ ?_
      · rintro i σ H2 hi ⟨et2, hlk2, e2, o4, G, rfl, hv2, hnG, hG7, hfG⟩
        have hlG := nd7_len hnG hG7
        refine ⟨_, rfl, face_of (i := 2) (j := 3) rfl rfl (hy.mono et2) hi (by omega) fun z H3 e3 hz => ?_⟩
        have hv3 : DtAt H3 d (sd G) := e3 _ _ hv2
        have hlk3 := e3 _ _ hlk2
        refine ⟨d, _, rfl, put_of hv3 hz (by rw [sd_len]; omega), ?_⟩
        rw [sd_put]
        rw [facesOf_drop hi] at hfG
        refine ⟨(et2.trans e3.t).trans (TEx.wrT hv3), by rw [upd_ne (Ne.symm hdf)]; exact hlk3, fun b' o hb' => ?_, _, addK G (b.eraseIdx i), rfl, upd_same, nd_addK hnG, fun s hs => ?_, hfG⟩
        · by_cases q : b' = df
          · rw [q, upd_same]
            rw [q] at hb'
            have := e2 _ _ hb'
            rw [upd_same] at this
            exact this
          · have := e2 _ _ hb'
            rw [upd_ne q] at this
            rw [upd_ne q, upd_ne (ne_of_none hb' hd)]
            exact e3 _ _ this
        · rcases mem_addK.mp hs with h | rfl
          · exact hG7 s h
          · exact a7_erase hb7 hi
      · rintro σ H2 ⟨et2, hlk2, e2, o4, G, rfl, hv2, hnG, hG7, hfG⟩
        rw [facesOf_end] at hfG
        have hfG : G = addAll I (facesOf b) := hfG
        refine ⟨et.trans et2, hlk2, e2, _, o4, G, rfl, hv2, hnG, hG7, ?_⟩
        rw [hfG]
        exact hf
    · rintro σ H' ⟨et, hlk', e, o2, o3, I, rfl, hv, hn, hI7, hf⟩
      have hf : I = innerOf F := hf
      subst hf
      refine ⟨hlk', ?_⟩
      have hdf' : DtAt (upd H' df (.dT (km (sd F)))) df (sd F) := upd_same
      have hd' : DtAt (upd H' df (.dT (km (sd F)))) d (sd (innerOf F)) := by
        show upd H' df _ d = _
        rw [upd_ne hdf]
        exact hv
      refine ⟨df, _, hdf', mut_dT, fun od2 => ?_⟩
      refine ⟨_, rfl, df, od2, rfl, .inr ⟨_, upd_same, fun D hD => ?_⟩⟩
      have hdl : DtAt (upd (upd H' df (.dT (km (sd F)))) df (.frz od2 (.dT (km (sd F))))) d (sd (innerOf F)) := by
        show upd _ df _ d = _
        rw [upd_ne hdf]
        exact hd'
      refine lcD_keys hD kS (fun s => if (!decide (s ∈ innerOf F)) = true then some s else none) upd_same (by rw [sd_len]; have := ok.len; omega) (by intros; rfl) (fun x s H1 e1 hx hs => ?_) (fun x s c H1 e1 hx hs hc => ?_) (fun H1 e1 hL => ?_)
      · rw [ite_isSome]
        refine fun H2 e2 Q q => ⟨_, rfl, _, rfl, d, _, rfl, sd_get (.inl ((e1.trans e2) _ _ hdl)) (hx.mono e2.t), _, rfl, ?_⟩
        have := q _ (Ex.refl _)
        by_cases hm : s ∈ innerOf F
        · rw [if_pos hm]
          rw [decide_eq_true hm] at this
          exact this
        · rw [if_neg hm]
          rw [decide_eq_false hm] at this
          exact this
      · obtain ⟨_, rfl⟩ := ite_some hc
        exact fun H2 e2 Q q => ⟨_, rfl, q _ _ (Ex.refl _) (hx.mono e2.t)⟩
      · rw [fm_filter, sd_keys] at hL
        have hlk1 := e1 _ _ (upd_same (H := upd H' df (.dT (km (sd F)))) (a := df) (o := .frz od2 (.dT (km (sd F)))))
        refine ⟨hlk1, ?_⟩
        have hL' := hL.unlock (o := .dT (km (sd F))) hlk1
        have eU : Ex H (upd H1 df (.dT (km (sd F)))) := e.trans (Ex.unlock hdf' e1)
        refine ⟨_, _, rfl, hL', by decide, all_alike alike_S _, sortable_S fun s hs => ok.ne s (List.mem_filter.mp hs).1, by have := List.length_filter_le (fun s => !decide (s ∈ innerOf F)) F; have := ok.len; omega, fun w2 H2 e2 _ hS => ?_⟩
        obtain ⟨l, vs, rfl, hl, hp⟩ := hS
        refine ⟨l, vs, rfl, hl, fun w3 H3 e3 h3 => k _ _ ((eU.trans e2).trans e3) (h3.tp (pr_kmono kS e3.t hp))⟩
end
end Sh
set_option Elab.async false
set_option linter.all false
set_option maxRecDepth 100000
set_option maxHeartbeats 4000000
namespace Sh
open PySem PySem.Spec PyProof.Rows L2 RZ
section
variable {P : Program} {w : World} {K : PySem.W.Frag} {mg : Str → Option Value} {base : Heap} {C CS CN CB : Addr}
/-! ### Complex -/
/-- what is no list stays -/
def NEx (H H' : Hp) : Prop := ∀ a o, (∀ xs, o ≠ .lst xs) → H a = some o → H' a = some o
theorem Ex.n {H H' : Hp} (e : Ex H H') : NEx H H' := fun a o _ h => e a o h
theorem NEx.t {H H' : Hp} (e : NEx H H') : TEx H H' := ⟨fun a xs h => e a _ (fun _ z => nomatch z) h, fun a o xs h => e a _ (fun _ z => nomatch z) h⟩
theorem NEx.trans {H H1 H2 : Hp} (a : NEx H H1) (b : NEx H1 H2) : NEx H H2 := fun x o n h => b x o n (a x o n h)
theorem NEx.dt {H H' : Hp} {d : Addr} {F : SV} (e : NEx H H') (h : DtAt H d F) : DtAt H' d F := e d _ (fun _ z => nomatch z) h
/-- v is a complex with the faces F -/
def Inst (C : Addr) (H : Hp) (v : V) (F : List Sx) : Prop := ∃ p dx fs d, v = .ref p ∧ H p = some (.ins C dx fs) ∧ fs.lookup ("faces" : Str) = some (.ref d) ∧ DtAt H d (sd F)
theorem Inst.mono {C : Addr} {H H' : Hp} {v : V} {F : List Sx} (e : NEx H H') (h : Inst C H v F) : Inst C H' v F := by
  obtain ⟨p, dx, fs, d, rfl, hp, hl, hd⟩ := h
  exact ⟨p, dx, fs, d, rfl, e p _ (fun _ z => nomatch z) hp, hl, e.dt hd⟩
theorem Inst.ty {C : Addr} {H : Hp} {v : V} {F : List Sx} (h : Inst C H v F) : ∃ p dx fs, v = .ref p ∧ H p = some (.ins C dx fs) := by
  obtain ⟨p, dx, fs, d, rfl, hp, hl, hd⟩ := h
  exact ⟨p, dx, fs, rfl, hp⟩
theorem gen_ok {ts : List Sx} (h7 : ∀ s ∈ ts, s ∈ all7) : FOk (gen ts) := by
  have : ∀ (r F : List Sx), (∀ s ∈ r, s ∈ all7) → FOk F → FOk (r.foldl genStep F) := by
    intro r
    induction r with
    | nil => intro F _ h; exact h
    | cons b r ih =>
      intro F hr h
      have hb := hr b List.mem_cons_self
      have q := genStep_nd7 h.nd h.a7 hb
      refine ih _ (fun s hs => hr s (List.mem_cons_of_mem _ hs)) ⟨q.1, q.2, fun s hs => ?_⟩
      unfold genStep at hs
      split at hs
      · exact h.ne s hs
      · rcases mem_addAll.mp hs with h1 | h1
        · exact h.ne s h1
        · exact (a7_parts hb h1).2
  exact this ts [] h7 ⟨List.nodup_nil, (fun s hs => by cases hs), fun s hs => by cases hs⟩
def spInit (C : Addr) : Sp := fun vs H Q _ => ∃ p v dx ts, vs = [.ref p, v] ∧ H p = some (.ins C dx []) ∧ (kTp kS).R H v ts ∧ (∀ s ∈ ts, s ∈ all7 ∧ s ≠ []) ∧ ts.length ≤ 400 ∧
  ∀ H', (∀ a o, a ≠ p → H a = some o → H' a = some o) → Inst C H' (.ref p) (gen ts) → Q .non H'
theorem sc_init : FnScope ["self", "simplices", "index", "simplex"] ["self", "simplices"] (defScope sInit) := ⟨rfl, rfl, rfl, by decide +kernel, rfl, by decide +kernel, by decide +kernel⟩
theorem nft : ¬ (("faces" : Str) = "tops") := by decide +kernel
theorem ok_init (T : Tx K mg C CS CN CB) : ∃ f fd, Mk K C f ∧ Binds K fd ["self", "simplices"] [] ∧ FnOk P w K mg base CX0 5 f fd ["self", "simplices"] (spInit C) := by
  obtain ⟨f, fd, hM, F, hb⟩ := T.ini
  refine ⟨f, fd, hM, hb, F.ok sc_init (fun vs H Q E h => ?_) (fun cdv A outer s H vs Q E hr h => ?_)⟩
  · obtain ⟨p, v, dx, ts, rfl, _⟩ := h
    rfl
  · obtain ⟨p, v, dx, ts, rfl, hp, hx, h7, h4, k⟩ := h
    obtain ⟨tf, hf⟩ := T.c_faces
    refine ⟨_, pss_cons (ps_if (pt_not (pt_val (pe_c (ok_is_list T) hr (by decide) pass0 (pa_cons (pv 1) (pa_cons pe_int (pa_cons (pe_glob (v := .int 400) rfl hf ⟨tf, rfl⟩) pa_nil)))))) pss_never pss_nil)
      (pss_cons (ps_for PassesOwn.never rfl (pi_enumT (by rfl) T.n_enumerate (pa_cons (pv 1) pa_nil)) (pg_tup rfl (pgs_cons (pg_name (i := 2) sc_init.nd rfl (Or.inl rfl)) (pgs_cons (pg_name (i := 3) sc_init.nd rfl (Or.inl rfl)) pgs_nil)))
        (pss_one (ps_if (pt_not (pt_val (pe_c (ok_is_simplex T) hr (by decide) pass0 (pa_cons (pv 3) pa_nil)))) pss_never pss_nil)))
      (pss_cons (ps_fld (pv 0) (pe_c (ok_gen T) hr (by decide) pass0 (pa_cons (pv 1) pa_nil)) rfl)
      (pss_one (ps_fld (pv 0) (pe_c (ok_maximal T) hr (by decide) pass0 (pa_cons (pe_fld (pv 0) rfl) pa_nil)) rfl)))), ?_⟩
    obtain ⟨a, xs, rfl, ha, hpr⟩ := hx
    have hlen := pr_len hpr
    refine ⟨_, rfl, _, 0, 400, rfl, .inl ⟨xs, ⟨a, rfl, ha⟩, true, ?_, ?_⟩⟩
    · rw [decide_eq_true (by omega), decide_eq_true (by omega)]
      rfl
    refine iteF ⟨_, rfl, a, xs, rfl, SqT.rd ha, ?_⟩
    refine for_enumT (fun i σ H' => Ex H H' ∧ ∃ o2 o3, σ = [some (V.ref p), some (V.ref a), o2, o3]) ⟨Ex.refl _, none, none, rfl⟩ (fun i σ H' q => SqT.rd (q.1.t.rd ha)) ?_ ?_
    · rintro i x Ta σ H' hi ⟨e, o2, o3, rfl⟩ hT
      obtain ⟨b, hbi, hR⟩ := pr_get hpr hi
      have hmb := h7 b (List.mem_of_getElem? hbi)
      have e2 : Ex H (upd H' Ta (.tup [.int (i : Nat), x])) := e.trans (Ex.new hT)
      refine ⟨Ta, _, rfl, SqT.of upd_same, rfl, _, _, rfl, _, _, rfl, rfl, _, rfl, x, b, rfl, hR.mono e2.t, a7_good hmb.1 hmb.2, fun H2 e3 => ⟨true, rfl, iteF ?_⟩⟩
      exact ⟨e2.trans e3, _, _, rfl⟩
    · rintro σ H' ⟨e, o2, o3, rfl⟩
      refine ⟨_, rfl, .ref a, ts, rfl, .inr ⟨a, xs, rfl, e.t.rd ha, pr_kmono kS e.t hpr⟩, (fun s hs => (h7 s hs).1), fun d H1 e1 hd0 hd => ?_⟩
      have hp1 := (e.trans e1) _ _ hp
      have hd0' := e.back hd0
      have hdp : d ≠ p := fun q => by
        rw [q, hp] at hd0'
        cases hd0'
      refine ⟨_, rfl, p, C, dx, [], rfl, hp1, T.cl, T.nF, by decide, ?_⟩
      have hd2 : DtAt (upd H1 p (.ins C dx (putF "faces" (.ref d) []))) d (sd (gen ts)) := (upd_ne hdp).trans hd
      refine ⟨_, rfl, p, C, dx, _, .ref d, rfl, upd_same, T.cl, T.nF, (by rw [lookup_putF, if_pos rfl]), ?_⟩
      refine ⟨d, gen ts, rfl, hd2, gen_ok fun s hs => (h7 s hs).1, fun w2 H2 e2 hw => ?_⟩
      have hp2 := e2 _ _ (upd_same (H := H1) (a := p) (o := .ins C dx (putF "faces" (.ref d) [])))
      refine ⟨_, rfl, p, C, dx, _, rfl, hp2, T.cl, T.nT, (by show 1 < 1000; decide), ?_⟩
      refine k _ (fun b o hb hbo => ?_) ⟨p, dx, _, d, rfl, upd_same, ?_, (upd_ne hdp).trans (e2 _ _ hd2)⟩
      · rw [upd_ne hb]
        refine e2 _ _ ?_
        rw [upd_ne hb]
        exact (e.trans e1) _ _ hbo
      · rw [lookup_putF, if_neg nft, lookup_putF, if_pos rfl]
/-- Complex(v) -/
theorem mk_complex {H : Hp} {v : V} {ts : List Sx} {Q : VK} (hx : (kTp kS).R H v ts) (h7 : ∀ s ∈ ts, s ∈ all7 ∧ s ≠ []) (h4 : ts.length ≤ 400) (k : ∀ p H', Ex H H' → Inst C H' (.ref p) (gen ts) → Q (.ref p) H') :
    ∀ x dx, H x = none → H dx = none → dx ≠ x → spInit C (.ref x :: ([v] ++ [])) (upd (upd H dx (.own x)) x (.ins C dx [])) (fun v H2 => v = .non ∧ Q (.ref x) H2) E0 := by
  intro x dx nx ndx nex
  have e1 : Ex H (upd (upd H dx (.own x)) x (.ins C dx [])) := (Ex.new ndx).trans (Ex.new (by rw [upd_ne (Ne.symm nex)]; exact nx))
  refine ⟨x, v, dx, ts, rfl, upd_same, (kTp kS).mono e1.t hx, h7, h4, fun H' f hI => ⟨rfl, k x H' (fun a o ha => ?_) hI⟩⟩
  have hne : a ≠ x := ne_of_none ha nx
  exact f a o hne (e1 a o ha)
end
end Sh
set_option Elab.async false
set_option linter.all false
set_option maxRecDepth 100000
set_option maxHeartbeats 4000000
namespace Sh
open PySem PySem.Spec PyProof.Rows L2 RZ
section
variable {P : Program} {w : World} {K : PySem.W.Frag} {mg : Str → Option Value} {base : Heap} {C CS CN CB : Addr}
/-! ### need_complex -/
def spNeed (C CN : Addr) : Sp := fun vs H Q E => ∃ v, vs = [v] ∧ ((∃ F, Inst C H v F ∧ Q .non H) ∨ ((v = .non ∨ (∃ i, v = .int i) ∨ (∃ b, v = .bl b) ∨ ∃ xs, IsT H v xs) ∧ E (.ref CN) none H))
theorem ty_ins (T : Tx K mg C CS CN CB) {H : Hp} {v : V} {F : List Sx} (h : Inst C H v F) : TyX K H v (.ref C) := by
  obtain ⟨p, dx, fs, rfl, hp⟩ := h.ty
  exact .base (.ins hp T.cl T.iha T.ihn T.iht T.ihm)
theorem kit_self (T : Tx K mg C CS CN CB) : PySem.W.kitOne K (.ref C) (.ref C) = some true := by
  unfold PySem.W.kitOne
  rw [if_pos (by simp)]
theorem kit_no (T : Tx K mg C CS CN CB) {t : String} (h : PySem.W.subIn K (.type t) (.ref C) = some false) : PySem.W.kitOne K (.type t) (.ref C) = some false := by
  unfold PySem.W.kitOne PySem.W.kitCls
  rw [if_neg (by intro z; cases eq_of_beq z)]
  dsimp only
  rw [if_pos (by rw [T.kt.1, T.kt.2]; rfl)]
  exact h
theorem sc_need : FnScope ["value"] ["value"] (defScope (top 21)) := ⟨rfl, rfl, rfl, by decide +kernel, rfl, by decide +kernel, by decide +kernel⟩
theorem ok_need (T : Tx K mg C CS CN CB) : Cal P w K mg base (L2.CX P w) 1 "need_complex" (spNeed C CN) := by
  refine T.d_need_complex.calX sc_need (fun vs H Q E h => ?_) (fun f cdv A outer s H vs Q E hr h => ?_)
  · obtain ⟨v, rfl, _⟩ := h
    rfl
  · obtain ⟨v, rfl, k⟩ := h
    refine ⟨_, pss_one (ps_if (pt_not (pt_val (pe_callB call_isO (by rfl) T.n_isinstance (by decide +kernel) (pa_cons (pv 0) (pa_cons (pe_glob (v := .ref C) rfl T.mgC rfl) pa_nil)))))
      (pss_one (ps_raise rfl (takes_of rfl rfl rfl rfl) (pmk_own0 PySem.F.excBase_ValueError T.eN.ex T.eN.mgC T.eN.kp (raises_own T.eN.sb T.eN.ty)))) pss_nil), ?_⟩
    rcases k with ⟨F, hI, k⟩ | ⟨hv, k⟩
    · exact ⟨_, rfl, _, _, _, true, rfl, ty_ins T hI, kit_self T, true, rfl, iteF k⟩
    · rcases hv with rfl | ⟨i, rfl⟩ | ⟨b, rfl⟩ | ⟨xs, hx⟩
      · exact ⟨_, rfl, _, _, _, false, rfl, ty_non, kit_no T T.kNone, false, rfl, iteT k⟩
      · exact ⟨_, rfl, _, _, _, false, rfl, ty_int i, kit_no T T.kInt, false, rfl, iteT k⟩
      · exact ⟨_, rfl, _, _, _, false, rfl, ty_bl b, kit_no T T.kBool, false, rfl, iteT k⟩
      · exact ⟨_, rfl, _, _, _, false, rfl, ty_tup hx, kit_no T T.kTup, false, rfl, iteT k⟩

/-! ### made -/
theorem mem_maxl {F : List Sx} {s : Sx} : s ∈ maxl F ↔ s ∈ F ∧ s ∉ innerOf F := by
  unfold maxl sortS
  rw [List.mem_mergeSort, List.mem_filter]
  simp
theorem maxl_len (F : List Sx) : (maxl F).length ≤ F.length := by
  unfold maxl sortS
  rw [List.length_mergeSort]
  exact List.length_filter_le _ _
def spMade (C : Addr) : Sp := fun vs H Q _ => ∃ v L, vs = [v] ∧ SeqD kS H v L ∧ (∀ s ∈ L, s ∈ all7) ∧ ∀ p H', Ex H H' → Inst C H' (.ref p) (madeM L) → Q (.ref p) H'
theorem sc_made : FnScope ["simplices"] ["simplices"] (defScope (top 22)) := ⟨rfl, rfl, rfl, by decide +kernel, rfl, by decide +kernel, by decide +kernel⟩
theorem ok_made (T : Tx K mg C CS CN CB) : Cal P w K mg base CX0 7 "made" (spMade C) := by
  refine T.d_made.cal sc_made (fun vs H Q E h => ?_) (fun f cdv A outer s H vs Q E hr h => ?_)
  · obtain ⟨v, x, rfl, _⟩ := h
    rfl
  · obtain ⟨v, L, rfl, hL, h7, k⟩ := h
    obtain ⟨fi, fdi, hM, hb, G⟩ := ok_init (P := P) (w := w) (base := base) T
    refine ⟨_, pss_one (ps_ret (pe_make hM G hr rfl T.mgC hb .nil pass0 (pa_cons (pe_c (ok_maximal T) hr (by decide) pass0 (pa_cons (pe_c (ok_gen T) hr (by decide) pass0 (pa_cons (pv 0) pa_nil)) pa_nil)) pa_nil))), ?_⟩
    have ok := gen_ok h7
    refine ⟨_, rfl, v, L, rfl, hL, h7, fun d H1 e1 _ hd => ⟨d, gen L, rfl, hd, ok, fun w1 H2 e2 hw => ?_⟩⟩
    refine mk_complex hw (fun s hs => ?_) (Nat.le_trans (maxl_len _) (by have := ok.len; omega)) fun p H3 e3 hI => k p H3 ((e1.trans e2).trans e3) hI
    have := (mem_maxl.mp hs).1
    exact ⟨ok.a7 s this, ok.ne s this⟩
end
end Sh
set_option Elab.async false
set_option linter.all false
set_option maxRecDepth 100000
set_option maxHeartbeats 4000000
namespace Sh
open PySem PySem.Spec PyProof.Rows L2 RZ
section
variable {P : Program} {w : World} {K : PySem.W.Frag} {mg : Str → Option Value} {base : Heap} {C CS CN CB : Addr}
/-! ### counts -/
theorem most_ge {F : List Sx} : ∀ y ∈ F.map List.length, y ≤ most F := by
  have gen : ∀ (l : List Nat) (a : Nat), a ≤ l.foldl max a ∧ ∀ y ∈ l, y ≤ l.foldl max a := by
    intro l
    induction l with
    | nil => intro a; exact ⟨Nat.le_refl _, (fun y hy => by cases hy)⟩
    | cons b l ih =>
      intro a
      obtain ⟨h1, h2⟩ := ih (max a b)
      refine ⟨by show a ≤ l.foldl max (max a b); omega, fun y hy => ?_⟩
      rcases List.mem_cons.mp hy with rfl | hy
      · show y ≤ l.foldl max (max a y)
        omega
      · exact h2 y hy
  exact (gen _ 0).2
theorem most_in {F : List Sx} : most F = 0 ∨ most F ∈ F.map List.length := by
  have gen : ∀ (l : List Nat) (a : Nat), l.foldl max a = a ∨ l.foldl max a ∈ l := by
    intro l
    induction l with
    | nil => intro a; exact .inl rfl
    | cons b l ih =>
      intro a
      rcases ih (max a b) with h | h
      · show l.foldl max (max a b) = a ∨ l.foldl max (max a b) ∈ b :: l
        rw [h]
        by_cases q : a ≤ b
        · exact .inr (by rw [Nat.max_eq_right q]; exact List.mem_cons_self)
        · exact .inl (Nat.max_eq_left (by omega))
      · exact .inr (List.mem_cons_of_mem _ h)
  exact gen _ 0
theorem most_eq {F : List Sx} {m : Int} (h1 : m ∈ F.map (fun s => (s.length : Int)) ++ [0]) (h2 : ∀ y ∈ F.map (fun s => (s.length : Int)) ++ [0], y ≤ m) : m = (most F : Int) := by
  have a1 : m ≤ (most F : Int) := by
    rcases List.mem_append.mp h1 with h | h
    · obtain ⟨s, hs, rfl⟩ := List.mem_map.mp h
      have := most_ge (F := F) s.length (List.mem_map.mpr ⟨s, hs, rfl⟩)
      omega
    · rw [List.mem_singleton] at h
      omega
  have a2 : (most F : Int) ≤ m := by
    rcases most_in (F := F) with h | h
    · rw [h]
      exact h2 0 (List.mem_append.mpr (.inr (List.mem_singleton.mpr rfl)))
    · obtain ⟨s, hs, e⟩ := List.mem_map.mp h
      rw [← e]
      exact h2 _ (List.mem_append.mpr (.inl (List.mem_map.mpr ⟨s, hs, rfl⟩)))
  omega
theorem bump_len (c : List Int) (s : Sx) (d : Int) : (bump c s d).length = c.length := List.length_modify _ _ _
theorem bump_set {c : List Int} {s : Sx} {x d : Int} (h : c[s.length - 1]? = some x) : (c.map V.int).set (s.length - 1) (.int (x + d)) = (bump c s d).map V.int := by
  unfold bump
  obtain ⟨hl, rfl⟩ := List.getElem?_eq_some_iff.mp h
  apply List.ext_getElem?
  intro i
  rw [List.getElem?_set, List.getElem?_map, List.getElem?_map, List.getElem?_modify]
  by_cases e : s.length - 1 = i
  · subst e
    rw [if_pos rfl, if_pos (by rw [List.length_map]; exact hl), h]
    simp
  · rw [if_neg e]
    simp [e]
theorem bumps_len : ∀ (r : List Sx) (c : List Int), (r.foldl (fun c s => bump c s 1) c).length = c.length
  | [], _ => rfl
  | b :: r, c => by
    have := bumps_len r (bump c b 1)
    rw [bump_len] at this
    exact this
theorem counts_len (F : List Sx) : (counts F).length = most F := by
  unfold counts
  rw [bumps_len, List.length_replicate]
theorem most_le7 {F : List Sx} (ok : FOk F) : most F ≤ 7 := by
  rcases most_in (F := F) with h | h
  · omega
  · obtain ⟨s, hs, e⟩ := List.mem_map.mp h
    rw [← e]
    exact a7_len (ok.a7 s hs)
theorem len_sub {b : Sx} (h : 0 < b.length) : V.int (((b.map V.int).length : Int) - 1) = V.int ((b.length - 1 : Nat) : Int) := by
  have e : ((b.map V.int).length : Int) - 1 = ((b.length - 1 : Nat) : Int) := by
    rw [List.length_map]
    omega
  rw [e]
def spCntIn (C : Addr) : Sp := fun vs H Q _ => ∃ v F, vs = [v] ∧ Inst C H v F ∧ FOk F ∧ ∀ l H', Ex H H' → H l = none → H' l = some (.lst ((counts F).map V.int)) → Q (.ref l) H'
theorem sc_cntin : FnScope ["shape", "most", "found", "simplex"] ["shape"] (defScope (top 23)) := ⟨rfl, rfl, rfl, by decide +kernel, rfl, by decide +kernel, by decide +kernel⟩
theorem ok_counts_in (T : Tx K mg C CS CN CB) : Cal P w K mg base CX0 1 "counts_in" (spCntIn C) := by
  refine T.d_counts_in.cal sc_cntin (fun vs H Q E h => ?_) (fun f cdv A outer s H vs Q E hr h => ?_)
  · obtain ⟨v, x, rfl, _⟩ := h
    rfl
  · obtain ⟨v, F, rfl, hI, ok, k⟩ := h
    refine ⟨_, pss_cons (ps_set (i := 1) sc_cntin.nd rfl (Or.inl rfl) (pe_callB (cr_max rfl) (by rfl) T.n_max (by decide +kernel) (pa_cons (pe_op op_cat
        (pe_lock (pe_lc (own := [("simplex", 3)]) (g := gName 3) (tt := tYes) (te := tCB (fun xs H Q => ∃ p ys, xs = [.ref p] ∧ (SqL K H p ys ∨ SqT K H p ys) ∧ Q (.int ys.length) H) (tCons (tVar 3) tNil)) rfl sc_cntin.nd (pi_keys (pe_fld (pv 0) rfl)) (blkOk_by (N := ["shape", "most", "found", "simplex"]) (sc := defScope (top 23)) (by decide +kernel))
          (fun _ _ _ _ _ => pg_name (i := 3) sc_cntin.nd rfl (Or.inl rfl)) (fun _ _ _ _ _ => pts_nil) (fun _ _ _ _ _ => pe_callB call_len_seq (by rfl) T.n_len PySem.boot_len (pa_cons (pv 3) pa_nil))))
        (pe_lst (pa_cons pe_int pa_nil))) pa_nil)))
      (pss_cons (ps_set (i := 2) sc_cntin.nd rfl (Or.inl rfl) (pe_op op_rep (pe_lst (pa_cons pe_int pa_nil)) (pv 1)))
      (pss_cons (ps_lock (ps_for PassesOwn.never rfl (pi_keys (pe_fld (pv 0) rfl)) (pg_name (i := 3) sc_cntin.nd rfl (Or.inl rfl))
        (pss_one (ps_augS (pv 2) (pe_op op_sub (pe_callB call_len_seq (by rfl) T.n_len PySem.boot_len (pa_cons (pv 3) pa_nil)) pe_int) get_list pe_int ip_add put_list))))
      (pss_one (ps_ret (pv 2))))), ?_⟩
    obtain ⟨p, dx, fs, df, rfl, hp, hfl, hF⟩ := id hI
    have hpd : p ≠ df := fun q => by
      have hF' : H df = some (.dT (km (sd F))) := hF
      rw [q, hF'] at hp
      cases hp
    refine ⟨df, _, hF, mut_dT, fun od => ?_⟩
    refine ⟨_, rfl, p, C, dx, fs, _, rfl, (upd_ne hpd).trans hp, T.cl, T.nF, hfl, df, od, rfl, .inr ⟨_, upd_same, fun D hD => ?_⟩⟩
    refine lcD_keys hD kI (fun s => some (s.length : Int)) upd_same (by rw [sd_len]; have := ok.len; omega) (by intros; rfl) (fun _ _ _ _ _ _ => evb_yes) (fun x s c H1 e1 hx hs hc => ?_) (fun H1 e1 hL => ?_)
    · cases hc
      intro H2 e2 Q q
      obtain ⟨a, rfl, ha⟩ := hx
      refine ⟨_, rfl, a, _, rfl, .inr (SqT.of (e2 _ _ ha)), q _ _ (Ex.refl _) ?_⟩
      show V.int ((s.map V.int).length : Int) = _
      rw [List.length_map]
    rw [sd_keys, fm_map] at hL
    have hlk1 := e1 _ _ (upd_same (H := H) (a := df) (o := .frz od (.dT (km (sd F)))))
    refine ⟨hlk1, ?_⟩
    have eU : Ex H (upd H1 df (.dT (km (sd F)))) := Ex.unlock hF e1
    obtain ⟨l1, el1, hl1⟩ := LsD.ints (K := K) (hL.unlock (o := .dT (km (sd F))) hlk1)
    cases el1
    refine ⟨by show 1 ≤ sizeLine; decide, fun l2 hl2 => ?_⟩
    have e2 : Ex (upd H1 df (.dT (km (sd F)))) (upd (upd H1 df (.dT (km (sd F)))) l2 (.lst [.int 0])) := Ex.new hl2
    refine ⟨D, l2, _, _, rfl, rfl, e2 _ _ hl1, upd_same, ?_, fun l3 hl3 => ?_⟩
    · rw [List.length_map, List.length_map, sizeLine_eq]
      have := ok.len
      show F.length + 1 ≤ _
      omega
    refine ⟨l3, F.map (fun s => (s.length : Int)) ++ [0], rfl, SqL.of (by rw [upd_same, List.map_append]; rfl), by simp, fun m hm1 hm2 => ?_⟩
    have hm := most_eq hm1 hm2
    subst hm
    have e3 := (eU.trans e2).trans (Ex.new hl3 (o := .lst (List.map V.int (F.map (fun s => (s.length : Int))) ++ [V.int 0])))
    refine ⟨by show 1 ≤ sizeLine; decide, fun l4 hl4 => ?_⟩
    have e4 := e3.trans (Ex.new hl4 (o := .lst [V.int 0]))
    have hm7 := most_le7 ok
    refine ⟨_, rfl, l4, _, _, rfl, rfl, upd_same, by omega, by omega, ?_, fun l5 hl5 => ?_⟩
    · rw [sizeLine_eq]
      show 1 * ((most F : Int).toNat) ≤ _
      omega
    have e5 := e4.trans (Ex.new hl5 (o := .lst (List.replicate (most F : Int).toNat [V.int 0]).flatten))
    have hl50 := e4.back hl5
    have hrep : (List.replicate (most F : Int).toNat [V.int 0]).flatten = (List.replicate (most F) (0 : Int)).map V.int := by
      rw [Int.toNat_natCast, List.map_replicate]
      induction most F with
      | zero => rfl
      | succ n ih => rw [List.replicate_succ, List.flatten_cons, ih, List.replicate_succ]; rfl
    generalize hHb : upd _ l5 _ = Hb at e5 ⊢
    have hb5 : Hb l5 = some (.lst ((List.replicate (most F) (0 : Int)).map V.int)) := by
      rw [← hHb, upd_same, hrep]
    have hFb := e5 _ _ hF
    refine ⟨df, _, hFb, mut_dT, fun od2 => ?_⟩
    have hpb := e5 _ _ hp
    refine ⟨_, rfl, p, C, dx, fs, _, rfl, (upd_ne hpd).trans hpb, T.cl, T.nF, hfl, df, od2, rfl, .inr ⟨_, upd_same, ?_⟩⟩
    have hl5d : l5 ≠ df := fun q => by
      rw [q, hF] at hl50
      cases hl50
    refine forR_keys (kvs := sd F) (fun r σ H' => H' df = some (.frz od2 (.dT (km (sd F)))) ∧ (∀ a o, a ≠ df → H a = some o → H' a = some o) ∧ ∃ c o3, σ = [some (V.ref p), some (V.int (most F : Int)), some (V.ref l5), o3] ∧ H' l5 = some (.lst (c.map V.int)) ∧ c.length = most F ∧ r.foldl (fun c s => bump c s 1) c = counts F)
      ⟨upd_same, fun a o ha h => by rw [upd_ne ha]; exact e5 a o h, List.replicate (most F) 0, none, rfl, (upd_ne hl5d).trans hb5, List.length_replicate, by rw [sd_keys]; rfl⟩ (fun r σ H' q => q.1) ?_ ?_
    · rintro b r y σ H' hy hb ⟨hlk, hex, c, o3, rfl, hc, hcl, hf⟩
      rw [sd_keys] at hb
      obtain ⟨ya, rfl, hya⟩ := hy
      have hb1 : 0 < b.length := List.length_pos_iff.mpr (ok.ne b hb)
      have hbm := most_ge (F := F) b.length (List.mem_map.mpr ⟨b, hb, rfl⟩)
      have hlt : b.length - 1 < c.length := by omega
      have hx : c[b.length - 1]? = some c[b.length - 1] := List.getElem?_eq_getElem hlt
      refine ⟨_, rfl, _, rfl, ya, _, rfl, .inr (SqT.of hya), _, _, rfl, rfl, l5, _, b.length - 1, _, rfl, ?_, hc, by rw [List.getElem?_map, hx]; rfl, _, _, rfl, rfl, l5, _, b.length - 1, rfl, ?_, hc, by rw [List.length_map]; exact hlt, ?_⟩
      · exact len_sub hb1
      · exact len_sub hb1
      rw [bump_set hx]
      refine ⟨by rw [upd_ne (Ne.symm hl5d)]; exact hlk, fun a o ha h => ?_, bump c b 1, _, rfl, upd_same, by rw [bump_len]; exact hcl, hf⟩
      rw [upd_ne (ne_of_none h hl50)]
      exact hex a o ha h
    · rintro σ H' ⟨hlk, hex, c, o3, rfl, hc, hcl, hf⟩
      have hf : c = counts F := hf
      subst hf
      refine ⟨hlk, _, rfl, k l5 _ (fun a o h => ?_) hl50 ((upd_ne hl5d).trans hc)⟩
      by_cases q : a = df
      · rw [q, upd_same, ← hF, ← q]
        exact h
      · rw [upd_ne q]
        exact hex a o q h
end
end Sh
set_option Elab.async false
set_option linter.all false
set_option maxRecDepth 100000
set_option maxHeartbeats 4000000
namespace Sh
open PySem PySem.Spec PyProof.Rows L2 RZ
section
variable {P : Program} {w : World} {K : PySem.W.Frag} {mg : Str → Option Value} {base : Heap} {C CS CN CB : Addr}
/-! ### counts_of -/
def spCntOf (C : Addr) : Sp := fun vs H Q _ => ∃ v F, vs = [v] ∧ Inst C H v F ∧ FOk F ∧ ∀ u H', Ex H H' → IsS H' u (counts F) → Q u H'
theorem sc_cntof : FnScope ["shape"] ["shape"] (defScope (top 24)) := ⟨rfl, rfl, rfl, by decide +kernel, rfl, by decide +kernel, by decide +kernel⟩
theorem ok_counts_of (T : Tx K mg C CS CN CB) : Cal P w K mg base CX0 2 "counts_of" (spCntOf C) := by
  refine T.d_counts_of.cal sc_cntof (fun vs H Q E h => ?_) (fun f cdv A outer s H vs Q E hr h => ?_)
  · obtain ⟨v, x, rfl, _⟩ := h
    rfl
  · obtain ⟨v, F, rfl, hI, ok, k⟩ := h
    refine ⟨_, pss_cons (ps_expr (pe_c (ok_need T) hr (by decide) passL (pa_cons (pv 0) pa_nil))) (pss_one (ps_ret (pe_callTy call_tupD (by rfl) T.n_tuple (by decide +kernel) (pa_cons (pe_c (ok_counts_in T) hr (by decide) pass0 (pa_cons (pv 0) pa_nil)) pa_nil)))), ?_⟩
    refine ⟨_, rfl, v, rfl, .inl ⟨F, hI, ?_⟩⟩
    refine ⟨_, rfl, v, F, rfl, hI, ok, fun l H1 e1 hl0 hl => ⟨l, _, rfl, hl, fun u H2 e2 hu => k u H2 (e1.trans e2) hu⟩⟩

/-! ### is_pairing -/
def RI (H : Hp) (x : V) : It0 → Prop
  | .bad => NoTup H x
  | .pr p => kP.R H x p
theorem RI.mono {H H' : Hp} {x : V} {it : It0} (e : Ex H H') (h : RI H x it) : RI H' x it := by
  cases it with
  | bad =>
    rcases h with h | ⟨l, xs, rfl, h⟩
    · exact .inl h
    · exact .inr ⟨l, xs, rfl, e _ _ h⟩
  | pr p => exact kP.mono e.t h
def ICond (items : List It0) : Prop := ∀ p, It0.pr p ∈ items → Good p.1 ∧ Good p.2 ∧ (p.2 ∈ all7 → p.1 ∈ all7)
/-- no tuple -/
def NoT (H : Hp) (v : V) : Prop := v = .non ∨ (∃ i, v = .int i) ∨ ∃ l xs, v = .ref l ∧ H l = some (.lst xs)
def spPairing (C : Addr) : Sp := fun vs H Q _ => ∃ u v F, vs = [u, v] ∧ Inst C H u F ∧ FOk F ∧ ((NoT H v ∧ Q (.bl false) H) ∨ ∃ xs items, IsT H v xs ∧ Paired (RI H) xs items ∧ ICond items ∧ ∀ H', Ex H H' → Q (.bl (pairM F items [])) H')
theorem p0_of {K : PySem.W.Frag} {σ : L2.St} {H : Hp} {Q : VK} {i : Nat} {v x y : V} (h : σ[i]? = some (some v)) (hp : IsT H v [x, y]) (q : Q x H) : tOp (rIxT K) (tVar i) (tC (.int 0)) σ H Q := by
  obtain ⟨a, rfl, ha⟩ := hp
  exact ⟨_, h, a, _, 0, x, rfl, rfl, SqT.rd ha, rfl, q⟩
theorem p1_of {K : PySem.W.Frag} {σ : L2.St} {H : Hp} {Q : VK} {i : Nat} {v x y : V} (h : σ[i]? = some (some v)) (hp : IsT H v [x, y]) (q : Q y H) : tOp (rIxT K) (tVar i) (tC (.int 1)) σ H Q := by
  obtain ⟨a, rfl, ha⟩ := hp
  exact ⟨_, h, a, _, 1, y, rfl, rfl, SqT.rd ha, rfl, q⟩
theorem kP_at {H : Hp} {v : V} {p : Sx × Sx} (h : kP.R H v p) : ∃ x y, IsT H v [x, y] ∧ IsS H x p.1 ∧ IsS H y p.2 := by
  obtain ⟨a, x, y, rfl, h, r1, r2⟩ := h
  exact ⟨x, y, ⟨a, rfl, .inl h⟩, r1, r2⟩
theorem len_of {K : PySem.W.Frag} {H : Hp} {x : V} {s : Sx} {Q : VK} (h : IsS H x s) (q : Q (.int (s.length : Int)) H) : (fun xs H Q => ∃ p ys, xs = [V.ref p] ∧ (SqL K H p ys ∨ SqT K H p ys) ∧ Q (V.int ys.length) H) [x] H Q := by
  obtain ⟨a, rfl, ha⟩ := h
  refine ⟨a, _, rfl, .inr (SqT.of ha), ?_⟩
  rw [List.length_map]
  exact q
theorem merge_sd : ∀ (G F : List Sx), mergeS (sd F) (sd G) = sd (addAll F G)
  | [], F => rfl
  | g :: G, F => by
    show mergeS (putK (sd F) g (.bl true)) (sd G) = _
    rw [sd_put, merge_sd G]
    rfl
theorem if_t {b : Bool} {A B : Prop} (h : b = true) (x : A) : if b = true then A else B := by rw [if_pos h]; exact x
theorem if_f {b : Bool} {A B : Prop} (h : b = false) (x : B) : if b = true then A else B := by rw [if_neg (by rw [h]; exact Bool.false_ne_true)]; exact x
theorem sc_pairing : FnScope ["shape", "pairs", "met", "pair", "one"] ["shape", "pairs"] (defScope (top 26)) := ⟨rfl, rfl, rfl, by decide +kernel, rfl, by decide +kernel, by decide +kernel⟩
abbrev rLen1 (K : PySem.W.Frag) : List V → Hp → VK → Prop := fun xs H Q => ∃ p ys, xs = [V.ref p] ∧ (SqL K H p ys ∨ SqT K H p ys) ∧ Q (V.int ys.length) H
theorem ok_is_pairing (T : Tx K mg C CS CN CB) : Cal P w K mg base CX0 5 "is_pairing" (spPairing C) := by
  refine T.d_is_pairing.cal sc_pairing (fun vs H Q E h => ?_) (fun f cdv A outer s H vs Q E hr h => ?_)
  · obtain ⟨u, v, F, rfl, _⟩ := h
    rfl
  · obtain ⟨u, v, F, rfl, hI, ok, k⟩ := h
    have hu : (A.deeper (envOfC "is_pairing" (defScope (top 26)) s.heap.objs.size f cdv)).units + 64 < cLine := hr.units
    have hu2 : (A.deeper (envOfC "is_pairing" (defScope (top 26)) s.heap.objs.size f cdv)).units + 65 < cLine := by have := hr.un; omega
    have hu1 : (A.deeper (envOfC "is_pairing" (defScope (top 26)) s.heap.objs.size f cdv)).units + 1 < cLine := by omega
    refine ⟨_, pss_cons (ps_if (pt_not (pt_val (pe_callB call_is (by rfl) T.n_isinstance (by decide +kernel) (pa_cons (pv 1) (pa_cons (pe_ty "tuple" T.n_tuple) pa_nil))))) (pss_one (ps_ret pe_bl)) pss_nil)
      (pss_cons (ps_set (i := 2) sc_pairing.nd rfl (Or.inl rfl) pe_dnewT)
      (pss_cons (ps_for PassesOwn.never rfl (pi_tup (pv 1)) (pg_name (i := 3) sc_pairing.nd rfl (Or.inr rfl))
        (pss_cons (ps_if (PW.pt (pw_or (pt_not (pt_val (pe_c (ok_is_list T) hr (by decide) pass0 (pa_cons (pv 3) (pa_cons pe_int (pa_cons pe_int pa_nil))))))
            (pw_or (pt_not (pt_val (pe_c (ok_is_simplex T) hr (by decide) pass0 (pa_cons (pe_ix ix_tup (pv 3) pe_int (fun _ _ => rfl)) pa_nil))))
            (pw_or1 (pt_not (pt_val (pe_c (ok_is_simplex T) hr (by decide) pass0 (pa_cons (pe_ix ix_tup (pv 3) pe_int (fun _ _ => rfl)) pa_nil)))))))) (pss_one (ps_ret pe_bl)) pss_nil)
        (pss_cons (ps_if (PW.pt (pw_or (pt_cmp (pc_dnotin hu1 (pe_ix ix_tup (pv 3) pe_int (fun _ _ => rfl)) (pe_fld (pv 0) rfl)))
            (pw_or1 (pt_cmpR op_ne (pe_callB call_len_seq (by rfl) T.n_len PySem.boot_len (pa_cons (pe_ix ix_tup (pv 3) pe_int (fun _ _ => rfl)) pa_nil)) (pe_op op_add (pe_callB call_len_seq (by rfl) T.n_len PySem.boot_len (pa_cons (pe_ix ix_tup (pv 3) pe_int (fun _ _ => rfl)) pa_nil)) pe_int) (nomark _))))) (pss_one (ps_ret pe_bl)) pss_nil)
        (pss_cons (ps_if (pt_val (pe_callB (cr_any rfl) (by rfl) T.n_any (by decide +kernel) (pa_cons (pe_lc (own := [("one", 4)]) (g := gName 4) (tt := tYes) (te := tOp (rNinT kI) (tVar 4) (tOp (rIxT K) (tVar 3) (tC (.int 1)))) rfl sc_pairing.nd
            (pi_tup (pe_ix ix_tup (pv 3) pe_int (fun _ _ => rfl))) (blkOk_by (N := ["shape", "pairs", "met", "pair", "one"]) (sc := defScope (top 26)) (by decide +kernel))
            (fun _ _ _ _ _ => pg_name (i := 4) sc_pairing.nd rfl (Or.inl rfl)) (fun _ _ _ _ _ => pts_nil) (fun _ _ _ _ _ => pe_cmpR (op_ninT kI (by decide) hu2) (pv 4) (pe_ix ix_tup (pv 3) pe_int (fun _ _ => rfl)) rfl)) pa_nil))) (pss_one (ps_ret pe_bl)) pss_nil)
        (pss_cons (ps_if (PW.pt (pw_or (pt_cmp (pc_din hu1 (pe_ix ix_tup (pv 3) pe_int (fun _ _ => rfl)) (pv 2))) (pw_or1 (pt_cmp (pc_din hu1 (pe_ix ix_tup (pv 3) pe_int (fun _ _ => rfl)) (pv 2)))))) (pss_one (ps_ret pe_bl)) pss_nil)
        (pss_one (ps_expr (pe_bm PySem.F.plainAttrs_dict PySem.F.slot_dict_update PySem.F.type_dict_update (mt_updT hu) (pv 2) (pa_cons (pe_dispT hu (pps_cons (pe_ix ix_tup (pv 3) pe_int (fun _ _ => rfl)) pe_bl (pps_cons (pe_ix ix_tup (pv 3) pe_int (fun _ _ => rfl)) pe_bl pps_nil)) rfl rfl (by simp) (by decide)) pa_nil)))))))))
      (pss_one (ps_ret pe_bl)))), ?_⟩
    rcases k with ⟨hv, k⟩ | ⟨xs, items, hx, hp, hc, k⟩
    · rcases hv with rfl | ⟨i, rfl⟩ | ⟨l, ys, rfl, hl⟩
      · exact ⟨_, rfl, _, _, _, false, rfl, ty_non, kit_ty (by decide +kernel), false, rfl, iteT k⟩
      · exact ⟨_, rfl, _, _, _, false, rfl, ty_int i, kit_ty (by decide +kernel), false, rfl, iteT k⟩
      · exact ⟨_, rfl, _, _, _, false, rfl, ty_lst hl, kit_ty (by decide +kernel), false, rfl, iteT k⟩
    refine ⟨_, rfl, _, _, _, true, rfl, ty_tup hx, kit_ty (by decide +kernel), true, rfl, iteF fun d hd => ?_⟩
    obtain ⟨a, rfl, ha⟩ := hx
    have e0 : Ex H (upd H d (.dT [])) := Ex.new hd
    refine ⟨_, rfl, a, rfl, ⟨_, SqT.rd (e0.t.rd ha)⟩, ?_⟩
    have hlen := pr_len hp
    refine for_tup (K := K) (a := a) (xs := xs) (fun i σ H' => Ex H H' ∧ ∃ o3 o4 met, σ = [some u, some (.ref a), some (.ref d), o3, o4] ∧ DtAt H' d (sd met) ∧ met.Nodup ∧ (∀ s ∈ met, s ∈ all7) ∧ pairM F (items.drop i) met = pairM F items [])
      ⟨e0, none, none, [], rfl, upd_same, List.nodup_nil, (fun s hs => by cases hs), rfl⟩ (fun i σ H' _ q => SqT.rd (q.1.t.rd ha)) ?_ ?_
    · rintro i x σ H' hxi ⟨e, o3, o4, met, rfl, hm, hmn, hm7, hf⟩
      obtain ⟨it, hit, hR⟩ := pr_get hp hxi
      have hR' := hR.mono e
      rw [drop_cons hit] at hf
      have hmem := List.mem_of_getElem? hit
      cases it with
      | bad =>
        have hf : false = pairM F items [] := hf
        refine ⟨_, rfl, x, 2, 2, rfl, .inr ⟨hR', false, rfl, iteT (iteT ?_)⟩⟩
        have := k H' e
        rw [← hf] at this
        exact this
      | pr p =>
        obtain ⟨g1, g2, c7⟩ := hc p hmem
        obtain ⟨y, z, hyz, hy, hz⟩ := kP_at hR'
        refine ⟨_, rfl, x, 2, 2, rfl, .inl ⟨_, hyz, true, rfl, iteF ?_⟩⟩
        refine p0_of rfl hyz ⟨y, p.1, rfl, hy, g1, fun H1 e1 => ⟨true, rfl, iteF ?_⟩⟩
        refine p1_of rfl (hyz.mono e1.t) ⟨z, p.2, rfl, hz.mono e1.t, g2, fun H2 e2 => ⟨true, rfl, iteF ?_⟩⟩
        have e12 := e1.trans e2
        have hyz2 := hyz.mono e12.t
        have hy2 := hy.mono e12.t
        have hz2 := hz.mono e12.t
        have eH2 := e.trans e12
        have hIn := hI.mono eH2.n
        obtain ⟨pI, dxI, fsI, dI, rfl, hpI, hflI, hFI⟩ := id hIn
        have hf : (if p.2 ∉ F ∨ p.2.length ≠ p.1.length + 1 then false else if (p.1.any fun x => !decide (x ∈ p.2)) = true then false else if p.1 ∈ met ∨ p.2 ∈ met then false else pairM F (items.drop (i + 1)) (addK (addK met p.1) p.2)) = pairM F items [] := hf
        refine p1_of rfl hyz2 ⟨_, rfl, pI, C, dxI, fsI, _, rfl, hpI, T.cl, T.nF, hflI, dI, _, rfl, sd_get (.inl hFI) hz2, _, rfl, ?_⟩
        by_cases hbF : p.2 ∈ F
        case neg =>
          rw [if_neg hbF]
          rw [if_pos (.inl hbF)] at hf
          refine iteT (iteT ?_)
          have := k H2 eH2
          rw [← hf] at this
          exact this
        rw [if_pos hbF]
        refine iteF ?_
        obtain ⟨ay, rfl, hay⟩ := id hy2
        obtain ⟨az, rfl, haz⟩ := id hz2
        refine p1_of rfl hyz2 ⟨az, _, rfl, .inr (SqT.of haz), p0_of rfl hyz2 ⟨ay, _, rfl, .inr (SqT.of hay), _, _, rfl, rfl, rfl, _, rfl, ?_⟩⟩
        by_cases hbl : p.2.length = p.1.length + 1
        case neg =>
          rw [if_pos (.inr hbl)] at hf
          refine if_t ?_ ?_
          · rw [Bool.not_eq_true', List.length_map, List.length_map]
            exact decide_eq_false fun q => hbl (by injection q with q; omega)
          have := k H2 eH2
          rw [← hf] at this
          exact this
        refine if_f ?_ ?_
        · rw [Bool.not_eq_false', List.length_map, List.length_map]
          exact decide_eq_true (by rw [hbl]; rfl)
        rw [if_neg (by simp [hbF, hbl])] at hf
        refine p0_of rfl hyz2 ⟨ay, rfl, ⟨_, SqT.of hay⟩, fun D hD => ?_⟩
        refine lcD_tup hD kI kB (fun v => some (!decide (v ∈ p.2))) (.inl hay) (pr_ints _ p.1) (by have := g1.2.1; omega) (by intros; rfl) (fun _ _ _ _ _ _ => evb_yes) (fun x1 b c H3 e3 hx1 hb hc => ?_) (fun H3 e3 hL => ?_)
        · cases hc
          have hx1 : x1 = V.int b := hx1
          subst hx1
          exact fun H4 e4 Q q => ⟨_, rfl, p1_of rfl (hyz2.mono (e3.trans e4).t) ⟨b, p.2, rfl, (hz2.mono (e3.trans e4).t).pr, q _ _ (Ex.refl _) rfl⟩⟩
        obtain ⟨l, el, hl⟩ := hL.bls (K := K)
        cases el
        have e23 := eH2.trans e3
        have hyz3 := hyz2.mono e3.t
        have hy3 := hy2.mono e3.t
        have hz3 := hz2.mono e3.t
        have hany : ((p.1.filterMap fun v => some (!decide (v ∈ p.2))).any id) = p.1.any fun x => !decide (x ∈ p.2) := by
          rw [fm_map, List.any_map]
          rfl
        refine ⟨D, _, rfl, hl, _, rfl, ?_⟩
        rw [hany]
        by_cases han : (p.1.any fun x => !decide (x ∈ p.2)) = true
        case pos =>
          rw [if_pos han] at hf
          rw [han]
          refine iteT ?_
          have := k H3 e23
          rw [← hf] at this
          exact this
        rw [if_neg han] at hf
        rw [Bool.eq_false_iff.mpr han]
        refine iteF ?_
        have hm3 := (e12.trans e3) _ _ hm
        have hb7 := ok.a7 _ hbF
        have ha7 := c7 hb7
        refine p0_of rfl hyz3 ⟨_, rfl, d, _, rfl, sd_get (.inl hm3) hy3, _, rfl, ?_⟩
        by_cases ham : p.1 ∈ met
        case pos =>
          rw [if_pos (.inl ham)] at hf
          rw [if_pos ham]
          refine iteT (iteT ?_)
          have := k H3 e23
          rw [← hf] at this
          exact this
        rw [if_neg ham]
        refine iteF ?_
        refine p1_of rfl hyz3 ⟨_, rfl, d, _, rfl, sd_get (.inl hm3) hz3, _, rfl, ?_⟩
        by_cases hbm : p.2 ∈ met
        case pos =>
          rw [if_pos (.inr hbm)] at hf
          rw [if_pos hbm]
          refine iteT ?_
          have := k H3 e23
          rw [← hf] at this
          exact this
        rw [if_neg hbm]
        refine iteF ?_
        rw [if_neg (by simp [ham, hbm])] at hf
        refine ⟨_, rfl, .inr (.inr (.inl ⟨rfl, .inr ⟨_, hm3⟩⟩)), fun p0 hp0 => ?_⟩
        have en : Ex H3 (upd H3 p0 (.dT [])) := Ex.new hp0
        refine p0_of rfl (hyz3.mono en.t) (p1_of rfl (hyz3.mono en.t) ⟨upd_same, [(p.1, .bl true), (p.2, .bl true)], .cons ⟨hy3.mono en.t, rfl⟩ (.cons ⟨hz3.mono en.t, rfl⟩ .nil), (by show 2 ≤ 15; decide), ?_⟩)
        have hne : p.1 ≠ p.2 := fun q => by
          rw [← q] at hbl
          omega
        have hG : mergeS [] [(p.1, V.bl true), (p.2, V.bl true)] = sd [p.1, p.2] := by
          have h1 := merge_sd [p.1, p.2] []
          have h2 : addAll [] [p.1, p.2] = [p.1, p.2] := by
            show addK (addK [] p.1) p.2 = _
            have h3 : addK [] p.1 = [p.1] := by unfold addK; rw [if_neg (by simp)]; rfl
            rw [h3]
            unfold addK
            rw [if_neg (by simp [Ne.symm hne])]
            rfl
          rw [h2] at h1
          exact h1
        rw [hG]
        have hd0 := e0.back (p := d)
        have hdp0 : d ≠ p0 := fun q => by
          rw [q, hp0] at hm3
          cases hm3
        have hlm := nd7_len hmn hm7
        have hm5 : DtAt (upd (upd H3 p0 (.dT [])) p0 (.dT (km (sd [p.1, p.2])))) d (sd met) := by
          show upd _ p0 _ d = _
          rw [upd_ne hdp0, upd_ne hdp0]
          exact hm3
        refine ⟨d, p0, sd met, sd [p.1, p.2], rfl, rfl, hm5, upd_same, hdp0, .inr ⟨sd_nodup ?_, sd_all ?_⟩, ?_, ?_⟩
        · simp [hne]
        · intro s hs
          simp at hs
          rcases hs with rfl | rfl
          · exact ha7
          · exact hb7
        · rw [sd_len, sd_len]
          show met.length + 2 ≤ _
          omega
        rw [merge_sd]
        refine ⟨Ex.mut (Ex.mut (e23.trans en) (e23.back hp0)) hd, _, _, addAll met [p.1, p.2], rfl, upd_same, nd_addAll hmn, fun s hs => ?_, hf⟩
        rcases mem_addAll.mp hs with h | h
        · exact hm7 s h
        · simp at h
          rcases h with rfl | rfl
          · exact ha7
          · exact hb7
    · rintro σ H' ⟨e, o3, o4, met, rfl, hm, hmn, hm7, hf⟩
      rw [hlen, List.drop_length] at hf
      have := k H' e
      rw [← hf] at this
      exact this
end
end Sh
set_option Elab.async false
set_option linter.all false
set_option maxRecDepth 100000
set_option maxHeartbeats 4000000
namespace Sh
open PySem PySem.Spec PyProof.Rows L2 RZ
section
variable {P : Program} {w : World} {K : PySem.W.Frag} {mg : Str → Option Value} {base : Heap} {C CS CN CB : Addr}
/-! ### has_ring -/
theorem Ups.drop {H : Hp} (k : Sx) : ∀ {kvs : SV} {L : List (Sx × Sx)}, Ups H kvs L → Ups H (dropK kvs k) (L.filter fun p => !decide (p.1 = k))
  | _, _, .nil => .nil
  | _, _, .cons (b := b) r t => by
    have ih := Ups.drop k t
    unfold dropK at ih ⊢
    by_cases e : b.1 = k
    · rw [List.filter_cons_of_neg (by rw [r.1, e]; simp), List.filter_cons_of_neg (by simp [e])]
      exact ih
    · rw [List.filter_cons_of_pos (by rw [r.1]; simp [e]), List.filter_cons_of_pos (by simp [e])]
      exact .cons r ih
theorem Ups.val {H : Hp} {kvs : SV} {L : List (Sx × Sx)} (h : Ups H kvs L) (k : Sx) : (valV kvs k).isSome = decide (k ∈ L.map (·.1)) := by
  rw [← Ups.keys h, ← valV_any]
  by_cases q : k ∈ kvs.map (·.1)
  · rw [decide_eq_true q, List.any_eq_true]
    obtain ⟨p, hp, e⟩ := List.mem_map.mp q
    exact ⟨p, hp, decide_eq_true e⟩
  · rw [decide_eq_false q, List.any_eq_false]
    intro p hp e
    exact q (List.mem_map.mpr ⟨p, hp, of_decide_eq_true e⟩)
theorem first_inj {L : List (Sx × Sx)} (hn : (L.map (·.1)).Nodup) {p q : Sx × Sx} (hp : p ∈ L) (hq : q ∈ L) (e : p.1 = q.1) : p = q := inj_of_nodup hn hp hq e
theorem facesOf_fm (b : Sx) : (List.range b.length).filterMap (fun i => some (b.eraseIdx i)) = facesOf b := fm_map _ _
theorem free_mem {L : List (Sx × Sx)} (hn : (L.map (·.1)).Nodup) {p : Sx × Sx} (hp : p ∈ L) : p.1 ∈ (L.filter (freeB L)).map (·.1) ↔ freeB L p = true := by
  constructor
  · intro h
    obtain ⟨q, hq, e⟩ := List.mem_map.mp h
    have hq' := List.mem_filter.mp hq
    rw [← first_inj hn hq'.1 hp e]
    exact hq'.2
  · intro h
    exact List.mem_map.mpr ⟨p, List.mem_filter.mpr ⟨hp, h⟩, rfl⟩
structure RCond (ps : List (Sx × Sx)) : Prop where
  nd : (ps.map (·.1)).Nodup
  len : ∀ p ∈ ps, p.2.length ≤ 8
  few : ps.length ≤ 1000
theorem RCond.filter {L : List (Sx × Sx)} (rc : RCond L) (f : Sx × Sx → Bool) : RCond (L.filter f) :=
  ⟨rc.nd.sublist (List.filter_sublist.map _), fun p hp => rc.len p (List.mem_filter.mp hp).1, Nat.le_trans (List.length_filter_le _ _) rc.few⟩
def spRing : Sp := fun vs H Q _ => ∃ v ps, vs = [v] ∧ TpP kP H v ps ∧ RCond ps ∧ ∀ H', Ex H H' → Q (.bl (ring ps)) H'
abbrev nRing : List Str := ["pairs", "left", "free", "small", "big", "at", "downs", "down"]
theorem sc_ring : FnScope nRing ["pairs"] (defScope (top 27)) := ⟨rfl, rfl, rfl, by decide +kernel, rfl, by decide +kernel, by decide +kernel⟩
theorem ok_has_ring (T : Tx K mg C CS CN CB) : Cal P w K mg base CX0 1 "has_ring" spRing := by
  refine T.d_has_ring.cal sc_ring (fun vs H Q E h => ?_) (fun f cdv A outer s H vs Q E hr h => ?_)
  · obtain ⟨v, ps, rfl, _⟩ := h
    rfl
  · obtain ⟨v, ps, rfl, hv, rc, k⟩ := h
    have hu : (A.deeper (envOfC "has_ring" (defScope (top 27)) s.heap.objs.size f cdv)).units + 64 < cLine := hr.units
    have hu1 : (A.deeper (envOfC "has_ring" (defScope (top 27)) s.heap.objs.size f cdv)).units + 1 < cLine := by omega
    refine ⟨_, pss_cons (ps_set (i := 1) sc_ring.nd rfl (Or.inr rfl) (pe_callTy (call_pairsT rfl hu) (by rfl) T.n_dict (by decide +kernel) (pa_cons (pv 0) pa_nil)))
      (pss_cons (ps_while PassesOwn.never (pt_cmpR (op_neE hu) (pv 1) pe_dnewT (nomark _))
        (pss_cons (ps_set (i := 2) sc_ring.nd rfl (Or.inl rfl) (pe_lst pa_nil))
        (pss_cons (ps_lock (ps_for PassesOwn.never rfl (pi_itemsT (pv 1)) (pg_tup rfl (pgs_cons (pg_name (i := 3) sc_ring.nd rfl (Or.inr rfl)) (pgs_cons (pg_name (i := 4) sc_ring.nd rfl (Or.inr rfl)) pgs_nil)))
          (pss_cons (ps_setLc (i := 6) (own := [("at", 5)]) (g := gName 5) (tt := tYes) (te := tFace 4 5) rfl sc_ring.nd rfl rfl (sw_true rfl rfl rfl (by decide +kernel)) (pi_range1 rfl T.n_range (pa_cons (pe_callB call_len_seq (by rfl) T.n_len PySem.boot_len (pa_cons (pv 4) pa_nil)) pa_nil))
              (blkOk_by (N := nRing) (sc := defScope (top 27)) (by decide +kernel)) (fun _ _ _ _ _ => pg_name (i := 5) sc_ring.nd rfl (Or.inl rfl)) (fun _ _ _ _ _ => pts_nil)
              (fun _ _ _ _ _ => pe_op op_catD (pe_slice sl_D (pv 4) po_none (po_some (pv 5))) (pe_slice sl_D (pv 4) (po_some (pe_op op_add (pv 5) pe_int)) po_none)))
          (pss_one (ps_if (pt_val (pe_callB (cr_all rfl) (by rfl) T.n_all (by decide +kernel) (pa_cons (pe_lc (own := [("down", 7)]) (g := gName 7) (tt := tYes) (te := tOrV (tOp (rEqK kS) (tVar 7) (tVar 3)) (tDNotIn (tVar 7) (tVar 1))) rfl sc_ring.nd (pi_list (pv 6))
              (blkOk_by (N := nRing) (sc := defScope (top 27)) (by decide +kernel)) (fun _ _ _ _ _ => pg_name (i := 7) sc_ring.nd rfl (Or.inl rfl)) (fun _ _ _ _ _ => pts_nil)
              (fun _ _ _ _ _ => pe_or (pe_cmpR (op_eqK kS (by decide) hu) (pv 7) (pv 3) (nomark _)) (pe_one (pe_cmp (pc_dnotin hu1 (pv 7) (pv 1)))))) pa_nil)))
            (pss_one (ps_expr (pe_bm PySem.F.plainAttrs_list PySem.F.slot_list_append PySem.F.type_list_append mt_append (pv 2) (pa_cons (pv 3) pa_nil)))) pss_nil)))))
        (pss_cons (ps_if (pt_cmpR (op_eqL kS (by decide) hu) (pv 2) (pe_lst pa_nil) (nomark _)) (pss_one (ps_ret pe_bl)) pss_nil)
        (pss_one (ps_for PassesOwn.never rfl (pi_list (pv 2)) (pg_name (i := 3) sc_ring.nd rfl (Or.inr rfl)) (pss_one (ps_expr (pe_bm PySem.F.plainAttrs_dict PySem.F.slot_dict_pop PySem.F.type_dict_pop (mt_pop1T hu) (pv 1) (pa_cons (pv 3) pa_nil))))))))))
      (pss_one (ps_ret pe_bl))), ?_⟩
    refine ⟨_, rfl, v, ps, rfl, hv, rc.nd, fun d kvs hd hU => ?_⟩
    have e0 : Ex H (upd H d (.dT (km kvs))) := Ex.new hd
    refine ⟨fun m σ H' => Ex H H' ∧ ∃ o2 o3 o4 o5 o6 o7 kvs L, σ = [some v, some (.ref d), o2, o3, o4, o5, o6, o7] ∧ DtAt H' d kvs ∧ Ups H' kvs L ∧ RCond L ∧ L.length ≤ m ∧ ringF m L = ring ps, ⟨ps.length, e0, none, none, none, none, none, none, kvs, ps, rfl, upd_same, hU.mono e0.t, rc, Nat.le_refl _, rfl⟩, ?_⟩
    rintro m σ H' ⟨e, o2, o3, o4, o5, o6, o7, kvs, L, rfl, hD, hU, rcL, hm, hf⟩
    refine ⟨_, rfl, fun q hq => ?_⟩
    have eq : Ex H' (upd H' q (.dT [])) := Ex.new hq
    have hdq : d ≠ q := ne_of_none hD hq
    refine ⟨d, q, kvs, rfl, rfl, eq _ _ hD, upd_same, _, rfl, ?_⟩
    have hkl : kvs.length = L.length := pr_len hU
    by_cases hLe : L = []
    · subst hLe
      have hk0 : kvs = [] := List.eq_nil_of_length_eq_zero (by rw [hkl]; rfl)
      subst hk0
      refine iteF ?_
      have : ringF m [] = false := by cases m <;> rfl
      rw [this] at hf
      have q := k _ (e.trans eq)
      rw [← hf] at q
      exact q
    have hk0 : (!kvs.isEmpty) = true := by
      cases kvs with
      | nil => exact absurd (List.eq_nil_of_length_eq_zero hkl.symm) hLe
      | cons _ _ => rfl
    refine if_t hk0 ?_
    obtain ⟨m, rfl⟩ : ∃ m', m = m' + 1 := by
      cases m with
      | zero => exact absurd (List.eq_nil_of_length_eq_zero (by omega)) hLe
      | succ m => exact ⟨m, rfl⟩
    have hf : (if L = [] then false else if L.filter (freeB L) = [] then true else ringF m (L.filter fun p => !freeB L p)) = ring ps := hf
    rw [if_neg hLe] at hf
    refine ⟨_, fun σ' H' h => ⟨m, Nat.lt_succ_self m, h⟩, ?_⟩
    have e1 := e.trans eq
    generalize hH1 : upd H' q (.dT []) = H1 at e1 eq
    have hD1 : DtAt H1 d kvs := eq _ _ hD
    have hU1 := hU.mono eq.t
    refine ⟨Nat.zero_le _, fun l hl => ?_⟩
    have el : Ex H1 (upd H1 l (.lst [])) := Ex.new hl
    have hl0 := e1.back hl
    have hld : l ≠ d := Ne.symm (ne_of_none hD1 hl)
    have hD2 : DtAt (upd H1 l (.lst [])) d kvs := el _ _ hD1
    refine ⟨d, _, hD2, mut_dT, fun od => ?_⟩
    refine ⟨_, rfl, d, od, kvs, rfl, upd_same, ?_⟩
    refine forR_items (fun r σ Hk => Hk d = some (.frz od (.dT (km kvs))) ∧ Ex H Hk ∧ Ups Hk kvs L ∧ ∃ o3 o4 o5 o6 o7 fr vs Lr, σ = [some v, some (.ref d), some (.ref l), o3, o4, o5, o6, o7] ∧ Hk l = some (.lst vs) ∧ Paired (kS.R Hk) vs fr ∧ Ups Hk r Lr ∧ (∀ p ∈ Lr, p ∈ L) ∧ fr ++ (Lr.filter (freeB L)).map (·.1) = (L.filter (freeB L)).map (·.1) ∧ fr.length + Lr.length ≤ 1000)
      ⟨upd_same, Ex.mut (e1.trans el) hd, hU1.mono (el.t.trans (TEx.wrT hD2)), o3, o4, o5, o6, o7, [], [], L, rfl, (upd_ne hld).trans upd_same, .nil, hU1.mono (el.t.trans (TEx.wrT hD2)), fun p hp => hp, rfl, by have := rcL.few; simp; omega⟩ (fun r σ Hk p => p.1) ?_ ?_
    · rintro p r Tp y σ Hk hTp hy hpk ⟨hlk, ek, hUk, o3, o4, o5, o6, o7, fr, ws, Lr, rfl, hlk2, hpf, hUr, hsub, hfr, hfl⟩
      cases hUr with
      | @cons _ b _ Lr' rr tt =>
      obtain ⟨e1', hz⟩ := rr
      have hbL := hsub b List.mem_cons_self
      have hb8 := rcL.len b hbL
      have eT : Ex Hk (upd Hk Tp (.tup [y, p.2])) := Ex.new hTp
      generalize hHT : upd Hk Tp (.tup [y, p.2]) = HT at eT
      refine ⟨Tp, _, rfl, SqT.of (by rw [← hHT]; exact upd_same), rfl, _, _, rfl, _, _, rfl, rfl, ?_⟩
      have hzT := hz.mono eT.t
      obtain ⟨az, ez, haz⟩ := id hzT
      refine ⟨_, rfl, az, _, by rw [ez], .inr (SqT.of haz), _, rfl, by omega, by rw [List.length_map]; omega, ?_⟩
      rw [List.length_map, Int.toNat_natCast]
      intro D hDn
      refine lcD_rng hDn kS (fun i => some (b.2.eraseIdx i)) (by omega) (by intros; rfl) (fun _ _ _ _ => evb_yes) (fun i c H5 e5 hi hc => ?_) (fun H5 e5 hL => ?_)
      · cases hc
        intro H6 e6 Q q
        exact face_of (i := 4) (j := 5) rfl rfl (hzT.mono (e5.trans e6).t) hi (by omega) fun w7 H7 e7 hw => q _ _ e7 hw
      rw [facesOf_fm] at hL
      obtain ⟨D', dvs, eD, hDl, hDp⟩ := hL
      cases eD
      have e05 := eT.trans e5
      refine ⟨_, rfl, D, rfl, ⟨_, SqL.of hDl⟩, fun D2 hD2n => ?_⟩
      have hfl2 : (facesOf b.2).length = b.2.length := by unfold facesOf; rw [List.length_map, List.length_range]
      refine lcD_lst hD2n kS kB (fun dn => some (decide (dn = b.1) || !decide (dn ∈ L.map (·.1)))) hDl hDp (by omega) (by intros; rfl) (fun _ _ _ _ _ _ => evb_yes) (fun x dn c H6 e6 hx hdn hc => ?_) (fun H6 e6 hL => ?_)
      · cases hc
        intro H7 e7 Q q
        have e67 := e6.trans e7
        refine ⟨_, rfl, _, rfl, dn, b.1, hx.mono e7.t, ?_, _, rfl, ?_⟩
        · have := hy.mono (e05.trans e67).t
          rw [e1'] at this
          exact this
        by_cases hq1 : dn = b.1
        · rw [decide_eq_true hq1]
          refine iteT ?_
          refine q _ _ (Ex.refl _) ?_
          show V.bl true = V.bl (decide (dn = b.1) || _)
          rw [decide_eq_true hq1]
          rfl
        · rw [decide_eq_false hq1]
          refine iteF ?_
          refine ⟨_, rfl, _, rfl, d, _, rfl, get_of (.inr ⟨od, (e05.trans e67) _ _ hlk⟩) (hx.mono e7.t), ?_⟩
          refine q _ _ (Ex.refl _) ?_
          show V.bl _ = V.bl (decide (dn = b.1) || _)
          rw [hUk.val, decide_eq_false hq1]
          rfl
      obtain ⟨l2, el2, hl2⟩ := hL.bls (K := K)
      cases el2
      have e06 := e05.trans e6
      have hall : (((facesOf b.2).filterMap fun dn => some (decide (dn = b.1) || !decide (dn ∈ L.map (·.1)))).all id) = freeB L b := by
        rw [fm_map, List.all_map]
        rfl
      refine ⟨D2, _, rfl, hl2, _, rfl, ?_⟩
      rw [hall]
      have hl6 := e06 _ _ hlk2
      have hpl := pr_len hpf
      rw [List.length_cons] at hfl
      by_cases hfb : freeB L b = true
      · rw [hfb]
        refine iteT ⟨_, rfl, .inl ⟨rfl, _, SqL.of hl6⟩, _, rfl, l, _, _, rfl, rfl, hl6, sz5l (by omega), ?_⟩
        have et := e06.t.trans (TEx.wrL hl6 (o := .lst (ws ++ [y])))
        refine ⟨(upd_ne (Ne.symm hld)).trans (e06 _ _ hlk), Ex.mut (ek.trans e06) hl0, hUk.mono et, _, _, o5, _, o7, fr ++ [b.1], _, Lr', rfl, upd_same, pr_snoc (pr_kmono kS et hpf) ?_, Ups.mono et tt, fun p' hp' => hsub p' (List.mem_cons_of_mem _ hp'), ?_, ?_⟩
        · have := hy.mono et
          rw [e1'] at this
          exact this
        · rw [← hfr, List.filter_cons_of_pos hfb, List.map_cons, List.append_assoc]
          rfl
        · rw [List.length_append]
          show fr.length + 1 + Lr'.length ≤ 1000
          omega
      · rw [Bool.eq_false_iff.mpr hfb]
        refine iteF ?_
        refine ⟨e06 _ _ hlk, ek.trans e06, hUk.mono e06.t, _, _, o5, _, o7, fr, _, Lr', rfl, hl6, pr_kmono kS e06.t hpf, Ups.mono e06.t tt, fun p' hp' => hsub p' (List.mem_cons_of_mem _ hp'), ?_, by omega⟩
        rw [← hfr, List.filter_cons_of_neg hfb]
    · rintro σ Hk ⟨hlk, ek, hUk, o3, o4, o5, o6, o7, fr, ws, Lr, rfl, hlk2, hpf, hUr, hsub, hfr, hfl⟩
      cases hUr
      have hfr : fr = (L.filter (freeB L)).map (·.1) := by
        rw [← hfr]
        exact (List.append_nil fr).symm
      refine ⟨hlk, ?_⟩
      have etu := TEx.wrF hlk (o := .dT (km kvs))
      have eku : Ex H (upd Hk d (.dT (km kvs))) := Ex.mut ek hd
      have hlu : upd Hk d (.dT (km kvs)) l = some (.lst ws) := (upd_ne hld).trans hlk2
      refine ⟨_, rfl, Nat.zero_le _, fun l2 hl2 => ?_⟩
      have el2 : Ex (upd Hk d (.dT (km kvs))) (upd (upd Hk d (.dT (km kvs))) l2 (.lst [])) := Ex.new hl2
      have hl3 := el2 _ _ hlu
      have et3 := etu.trans el2.t
      have hp3 := pr_kmono kS et3 hpf
      refine ⟨fr, [], ⟨l, ws, rfl, hl3, hp3⟩, ⟨l2, [], rfl, upd_same, .nil⟩, _, rfl, ?_⟩
      have e3 := eku.trans el2
      by_cases hfe : fr = []
      · rw [decide_eq_true hfe]
        refine iteT ?_
        rw [if_pos (List.map_eq_nil_iff.mp (hfr.symm.trans hfe))] at hf
        have q := k _ e3
        rw [← hf] at q
        exact q
      rw [decide_eq_false hfe]
      refine iteF ?_
      rw [if_neg (fun z => hfe (by rw [hfr, z]; rfl))] at hf
      have hD3 : DtAt (upd (upd Hk d (.dT (km kvs))) l2 (.lst [])) d kvs := el2 _ _ upd_same
      have hU3 := hUk.mono et3
      have hsubl : List.Sublist fr (L.map (·.1)) := by rw [hfr]; exact List.filter_sublist.map _
      refine ⟨_, rfl, l, rfl, ⟨_, SqL.of hl3⟩, ?_⟩
      refine forR_lst kS hp3 (fun r σ Hm => TEx (upd (upd Hk d (.dT (km kvs))) l2 (.lst [])) Hm ∧ Ex H Hm ∧ Hm l = some (.lst ws) ∧ ∃ o3 o4 o5 o6 o7 kvs' L', σ = [some v, some (.ref d), some (.ref l), o3, o4, o5, o6, o7] ∧ DtAt Hm d kvs' ∧ Ups Hm kvs' L' ∧ RCond L' ∧ r.Nodup ∧ (∀ s ∈ r, s ∈ L'.map (·.1)) ∧ L'.filter (fun p => !decide (p.1 ∈ r)) = L.filter (fun p => !freeB L p))
        ⟨TEx.refl _, e3, hl3, o3, o4, o5, o6, o7, kvs, L, rfl, hD3, hU3, rcL, rcL.nd.sublist hsubl, fun s hs => hsubl.subset hs, List.filter_congr fun p hp => ?_⟩ (fun r σ Hm p => ⟨p.1, SqL.of p.2.2.1⟩) ?_ ?_
      · have := free_mem rcL.nd hp
        rw [← hfr] at this
        by_cases q : freeB L p = true
        · rw [q, decide_eq_true (this.mpr q)]
        · rw [Bool.eq_false_iff.mpr q, decide_eq_false fun z => q (this.mp z)]
      · rintro s r x σ Hm hx hs ⟨et, em, hlm, o3, o4, o5, o6, o7, kvs', L', rfl, hDm, hUm, rcm, hrn, hrs, hff⟩
        have hsm := hrs s List.mem_cons_self
        have hvs := hUm.val s
        rw [decide_eq_true hsm] at hvs
        obtain ⟨vv, hvv⟩ := Option.isSome_iff_exists.mp hvs
        refine ⟨_, rfl, .inr (.inr (.inl ⟨rfl, .inr ⟨_, hDm⟩⟩)), _, rfl, d, kvs', x, s, vv, rfl, rfl, hDm, hx, hvv, ?_⟩
        have etm := TEx.wrT hDm (o := .dT (km (dropK kvs' s)))
        rw [List.nodup_cons] at hrn
        refine ⟨et.trans etm, Ex.mut em hd, (upd_ne hld).trans hlm, _, o4, o5, o6, o7, dropK kvs' s, L'.filter (fun p => !decide (p.1 = s)), rfl, upd_same, (hUm.drop s).mono etm, rcm.filter _, hrn.2, fun t ht => ?_, ?_⟩
        · obtain ⟨p, hp, ep⟩ := List.mem_map.mp (hrs t (List.mem_cons_of_mem _ ht))
          refine List.mem_map.mpr ⟨p, List.mem_filter.mpr ⟨hp, ?_⟩, ep⟩
          rw [ep]
          simp only [Bool.not_eq_true', decide_eq_false_iff_not]
          exact fun q => hrn.1 (q ▸ ht)
        · rw [← hff, List.filter_filter]
          refine List.filter_congr fun p hp => ?_
          by_cases q1 : p.1 = s
          · rw [q1]
            simp
          · by_cases q2 : p.1 ∈ r <;> simp [q1, q2]
      · rintro σ Hm ⟨et, em, hlm, o3, o4, o5, o6, o7, kvs', L', rfl, hDm, hUm, rcm, hrn, hrs, hff⟩
        have hL' : L' = L.filter (fun p => !freeB L p) := by
          rw [← hff]
          exact (List.filter_eq_self.mpr fun p hp => by simp).symm
        refine ⟨em, _, _, _, _, _, _, kvs', L', rfl, hDm, hUm, rcm, ?_, ?_⟩
        · rw [hL']
          have : (L.filter fun p => !freeB L p).length < L.length := by
            obtain ⟨t, ht⟩ := List.exists_mem_of_ne_nil fr hfe
            rw [hfr] at ht
            obtain ⟨p, hp, _⟩ := List.mem_map.mp ht
            have hp := List.mem_filter.mp hp
            exact List.length_filter_lt_length_iff_exists.mpr ⟨p, hp.1, by rw [hp.2]; simp⟩
          omega
        · rw [hL']
          exact hf
end
end Sh
set_option Elab.async false
set_option linter.all false
set_option maxRecDepth 100000
set_option maxHeartbeats 4000000
namespace Sh
open PySem PySem.Spec PyProof.Rows L2 RZ
section
variable {P : Program} {w : World} {K : PySem.W.Frag} {mg : Str → Option Value} {base : Heap} {C CS CN CB : Addr}
/-! ### is_loopless, critical_counts, told -/
def prs (ps : List (Sx × Sx)) : List It0 := ps.map .pr
structure PC (ps : List (Sx × Sx)) : Prop where
  g : ∀ p ∈ ps, Good p.1 ∧ Good p.2 ∧ (p.2 ∈ all7 → p.1 ∈ all7)
  rc : RCond ps
theorem PC.ic {ps : List (Sx × Sx)} (h : PC ps) : ICond (prs ps) := fun p hp => by
  obtain ⟨q, hq, e⟩ := List.mem_map.mp hp
  injection e with e
  subst e
  exact h.g q hq
def lpM (F : List Sx) (ps : List (Sx × Sx)) : Bool := pairM F (prs ps) [] && !ring ps
/-- a value that is no pairing -/
def Odd (F : List Sx) (H : Hp) (v : V) : Prop := NoT H v ∨ ∃ xs items, IsT H v xs ∧ Paired (RI H) xs items ∧ ICond items ∧ pairM F items [] = false
theorem pr_RI {H : Hp} : ∀ {xs : List V} {ps : List (Sx × Sx)}, Paired (kP.R H) xs ps → Paired (RI H) xs (prs ps)
  | _, _, .nil => .nil
  | _, _, .cons r t => .cons r (pr_RI t)
def NoCx (H : Hp) (v : V) : Prop := v = .non ∨ (∃ i, v = .int i) ∨ (∃ b, v = .bl b) ∨ ∃ xs, IsT H v xs
def spLoop (C CN : Addr) : Sp := fun vs H Q E => ∃ u v, vs = [u, v] ∧ ((NoCx H u ∧ E (.ref CN) none H) ∨ ∃ F, Inst C H u F ∧ FOk F ∧ ((Odd F H v ∧ ∀ H', Ex H H' → Q (.bl false) H') ∨ ∃ ps, TpP kP H v ps ∧ PC ps ∧ ∀ H', Ex H H' → Q (.bl (lpM F ps)) H'))
theorem sc_loop : FnScope ["shape", "pairs"] ["shape", "pairs"] (defScope (top 28)) := ⟨rfl, rfl, rfl, by decide +kernel, rfl, by decide +kernel, by decide +kernel⟩
theorem ok_is_loopless (T : Tx K mg C CS CN CB) : Cal P w K mg base (L2.CX P w) 6 "is_loopless" (spLoop C CN) := by
  refine T.d_is_loopless.calX sc_loop (fun vs H Q E h => ?_) (fun f cdv A outer s H vs Q E hr h => ?_)
  · obtain ⟨u, v, rfl, _⟩ := h
    rfl
  · obtain ⟨u, v, rfl, k⟩ := h
    refine ⟨_, pss_cons (ps_expr (pe_c (ok_need T) hr (by decide) (passes_call (takes_of rfl rfl rfl rfl) (fun _ _ _ _ h => h)) (pa_cons (pv 0) pa_nil)))
      (pss_one (ps_ret (pe_and (pe_c (ok_is_pairing T) hr (by decide) pass0 (pa_cons (pv 0) (pa_cons (pv 1) pa_nil))) (pe_one (pe_not (pe_c (ok_has_ring T) hr (by decide) pass0 (pa_cons (pv 1) pa_nil))))))), ?_⟩
    rcases k with ⟨hn, k⟩ | ⟨F, hI, ok, k⟩
    · exact ⟨_, rfl, u, rfl, .inr ⟨hn, k⟩⟩
    · refine ⟨_, rfl, u, rfl, .inl ⟨F, hI, _, rfl, _, rfl, u, v, F, rfl, hI, ok, ?_⟩⟩
      rcases k with ⟨ho, k⟩ | ⟨ps, hv, pc, k⟩
      · rcases ho with ho | ⟨xs, items, hx, hp, hc, hf⟩
        · exact .inl ⟨ho, false, rfl, iteF (k H (Ex.refl H))⟩
        · refine .inr ⟨xs, items, hx, hp, hc, fun H' e => ⟨_, rfl, ?_⟩⟩
          rw [hf]
          exact iteF (k H' e)
      · obtain ⟨a, o, xs, rfl, ha, hd, hp⟩ := id hv
        refine .inr ⟨xs, prs ps, ⟨a, rfl, .inr ⟨o, ha⟩⟩, pr_RI hp, pc.ic, fun H' e => ⟨_, rfl, ?_⟩⟩
        cases hb : pairM F (prs ps) [] with
        | false =>
          refine iteF ?_
          have := k H' e
          unfold lpM at this
          rw [hb] at this
          exact this
        | true =>
          refine iteT ⟨_, rfl, .ref a, ps, rfl, hv.mono e.t, pc.rc, fun H2 e2 => ⟨_, rfl, ?_⟩⟩
          have := k H2 (e.trans e2)
          unfold lpM at this
          rw [hb, Bool.true_and] at this
          exact this
theorem pairM_in {F : List Sx} : ∀ {items : List It0} {met : List Sx}, pairM F items met = true → ∀ p, It0.pr p ∈ items → p.2 ∈ F ∧ p.2.length = p.1.length + 1
  | [], _, _, p, hp => by cases hp
  | .bad :: _, _, h, _, _ => by cases h
  | .pr q :: r, met, h, p, hp => by
    have h : (if q.2 ∉ F ∨ q.2.length ≠ q.1.length + 1 then false else if (q.1.any fun x => !decide (x ∈ q.2)) = true then false else if q.1 ∈ met ∨ q.2 ∈ met then false else pairM F r (addK (addK met q.1) q.2)) = true := h
    split at h
    · cases h
    · rename_i h1
      split at h
      · cases h
      · split at h
        · cases h
        · rcases List.mem_cons.mp hp with e | hp
          · cases e
            refine ⟨Decidable.byContradiction fun z => h1 (.inl z), Decidable.byContradiction fun z => h1 (.inr z)⟩
          · exact pairM_in h p hp
def spCrit (C CN CB : Addr) : Sp := fun vs H Q E => ∃ u v, vs = [u, v] ∧ ((NoCx H u ∧ E (.ref CN) none H) ∨ ∃ F, Inst C H u F ∧ FOk F ∧ ((Odd F H v ∧ ∀ H', Ex H H' → E (.ref CB) none H') ∨
  ∃ ps, TpP kP H v ps ∧ PC ps ∧ (lpM F ps = false → ∀ H', Ex H H' → E (.ref CB) none H') ∧ (lpM F ps = true → ∀ z H', Ex H H' → IsS H' z (crit (counts F) ps) → Q z H')))
theorem sc_crit : FnScope ["shape", "pairs", "found", "pair", "simplex"] ["shape", "pairs"] (defScope (top 29)) := ⟨rfl, rfl, rfl, by decide +kernel, rfl, by decide +kernel, by decide +kernel⟩
theorem ok_critical (T : Tx K mg C CS CN CB) : Cal P w K mg base (L2.CX P w) 7 "critical_counts" (spCrit C CN CB) := by
  refine T.d_critical_counts.calX sc_crit (fun vs H Q E h => ?_) (fun f cdv A outer s H vs Q E hr h => ?_)
  · obtain ⟨u, v, rfl, _⟩ := h
    rfl
  · obtain ⟨u, v, rfl, k⟩ := h
    refine ⟨_, pss_cons (ps_if (pt_not (pt_val (pe_c (ok_is_loopless T) hr (by decide) (passes_call (takes_of rfl rfl rfl rfl) (fun _ _ _ _ h => h)) (pa_cons (pv 0) (pa_cons (pv 1) pa_nil)))))
        (pss_one (ps_raise rfl (takes_of rfl rfl rfl rfl) (pmk_own0 PySem.F.excBase_ValueError T.eB.ex T.eB.mgC T.eB.kp (raises_own T.eB.sb T.eB.ty)))) pss_nil)
      (PSs.nox (pss_cons (ps_set (i := 2) sc_crit.nd rfl (Or.inl rfl) (pe_c (ok_counts_in T) hr (by decide) pass0 (pa_cons (pv 0) pa_nil)))
      (pss_cons (ps_for PassesOwn.never rfl (pi_tup (pv 1)) (pg_name (i := 3) sc_crit.nd rfl (Or.inl rfl)) (pss_one (ps_for PassesOwn.never rfl (pi_tup (pv 3)) (pg_name (i := 4) sc_crit.nd rfl (Or.inl rfl))
        (pss_one (ps_augS (pv 2) (pe_op op_sub (pe_callB call_len_seq (by rfl) T.n_len PySem.boot_len (pa_cons (pv 4) pa_nil)) pe_int) get_list pe_int ip_sub put_list)))))
      (pss_one (ps_ret (pe_callTy call_tupD (by rfl) T.n_tuple (by decide +kernel) (pa_cons (pv 2) pa_nil))))))), ?_⟩
    rcases k with ⟨hn, k⟩ | ⟨F, hI, ok, k⟩
    · exact ⟨_, rfl, _, rfl, u, v, rfl, .inl ⟨hn, k⟩⟩
    · refine ⟨_, rfl, _, rfl, u, v, rfl, .inr ⟨F, hI, ok, ?_⟩⟩
      rcases k with ⟨ho, k⟩ | ⟨ps, hv, pc, k1, k2⟩
      · exact .inl ⟨ho, fun H' e => ⟨false, rfl, iteT (k H' e)⟩⟩
      · refine .inr ⟨ps, hv, pc, fun H' e => ⟨_, rfl, ?_⟩⟩
        cases hb : lpM F ps with
        | false => exact iteT (k1 hb H' e)
        | true =>
          have k2 := k2 hb
          refine iteF ?_
          have hpm : pairM F (prs ps) [] = true := by
            unfold lpM at hb
            exact (Bool.and_eq_true _ _ ▸ hb).1
          have hin := pairM_in hpm
          refine ⟨_, rfl, u, F, rfl, hI.mono e.n, ok, fun l H1 e1 hl0 hl => ?_⟩
          obtain ⟨a, o, xs, rfl, ha, hd, hp⟩ := id hv
          have e01 := e.trans e1
          have ha1 := e01 _ _ ha
          have hl00 := e.back hl0
          refine ⟨_, rfl, a, rfl, ⟨_, SqT.rd (.inr ⟨o, ha1⟩)⟩, ?_⟩
          refine forR_tup kP (pr_kmono kP e01.t hp) (fun r σ Hk => TEx H1 Hk ∧ Ex H Hk ∧ ∃ o3 o4 c, σ = [some u, some (.ref a), some (.ref l), o3, o4] ∧ Hk l = some (.lst (c.map V.int)) ∧ c.length = most F ∧ crit c r = crit (counts F) ps)
            ⟨TEx.refl _, e01, none, none, counts F, rfl, hl, counts_len F, rfl⟩ (fun r σ Hk q => ⟨q.1, SqT.rd (q.1.rd (.inr ⟨o, ha1⟩))⟩) ?_ ?_
          · rintro p r x σ Hk hx hpm ⟨et, ek, o3, o4, c, rfl, hlc, hcl, hf⟩
            have hpi := hin p (List.mem_map.mpr ⟨p, hpm, rfl⟩)
            have hg := (pc.g p hpm).1.1
            have h1 : 0 < p.1.length := List.length_pos_iff.mpr hg
            have h2 := most_ge (F := F) p.2.length (List.mem_map.mpr ⟨p.2, hpi.1, rfl⟩)
            obtain ⟨y, z, ⟨ax, rfl, hax⟩, hy, hz⟩ := kP_at hx
            refine ⟨_, rfl, ax, rfl, ⟨_, SqT.rd hax⟩, ?_⟩
            have hp2 : Paired (kS.R Hk) [y, z] [p.1, p.2] := .cons hy (.cons hz .nil)
            refine forR_tup kS hp2 (fun r2 σ Hm => TEx Hk Hm ∧ Ex H Hm ∧ ∃ o4 c2, σ = [some u, some (.ref a), some (.ref l), some (.ref ax), o4] ∧ Hm l = some (.lst (c2.map V.int)) ∧ c2.length = most F ∧ r2.foldl (fun c s => bump c s (-1)) c2 = bump (bump c p.1 (-1)) p.2 (-1))
              ⟨TEx.refl _, ek, o4, c, rfl, hlc, hcl, rfl⟩ (fun r σ Hm q => ⟨q.1, SqT.rd (q.1.rd hax)⟩) ?_ ?_
            · rintro b r2 w' σ Hm hb hbm ⟨et2, em, o4, c2, rfl, hlc2, hcl2, hf2⟩
              have hb1 : 0 < b.length ∧ b.length ≤ most F := by
                simp at hbm
                rcases hbm with rfl | rfl
                · exact ⟨h1, by omega⟩
                · exact ⟨by omega, h2⟩
              have hlt : b.length - 1 < c2.length := by omega
              have hxx : c2[b.length - 1]? = some c2[b.length - 1] := List.getElem?_eq_getElem hlt
              obtain ⟨ya, rfl, hya⟩ := hb
              refine ⟨_, rfl, _, rfl, ya, _, rfl, .inr (SqT.of hya), _, _, rfl, rfl, l, _, b.length - 1, _, rfl, ?_, hlc2, by rw [List.getElem?_map, hxx]; rfl, _, _, rfl, rfl, l, _, b.length - 1, rfl, ?_, hlc2, by rw [List.length_map]; exact hlt, ?_⟩
              · exact len_sub hb1.1
              · exact len_sub hb1.1
              have hset := bump_set (d := -1) hxx
              have hset' : (c2.map V.int).set (b.length - 1) (.int ((fun i j => i - j) c2[b.length - 1] (1 : Int))) = (bump c2 b (-1)).map V.int := hset
              rw [hset']
              exact ⟨et2.trans (TEx.wrL hlc2), Ex.mut em hl00, _, bump c2 b (-1), rfl, upd_same, by rw [bump_len]; exact hcl2, hf2⟩
            · rintro σ Hm ⟨et2, em, o4, c2, rfl, hlc2, hcl2, hf2⟩
              have hf2 : c2 = bump (bump c p.1 (-1)) p.2 (-1) := hf2
              refine ⟨et.trans et2, em, _, o4, c2, rfl, hlc2, hcl2, ?_⟩
              rw [hf2]
              exact hf
          · rintro σ Hk ⟨et, ek, o3, o4, c, rfl, hlc, hcl, hf⟩
            have hf : c = crit (counts F) ps := hf
            subst hf
            exact ⟨_, rfl, l, _, rfl, hlc, fun z H2 e2 hz => k2 z H2 (ek.trans e2) hz⟩
end
end Sh
set_option Elab.async false
set_option linter.all false
set_option maxRecDepth 100000
set_option maxHeartbeats 4000000
namespace Sh
open PySem PySem.Spec PyProof.Rows L2 RZ
section
variable {P : Program} {w : World} {K : PySem.W.Frag} {mg : Str → Option Value} {base : Heap} {C CS CN CB : Addr}
/-! ### told -/
theorem exm_of {S D : Addr} (h1 : PySem.W.subIn K (.ref S) (.type "BaseException") = some true) (h2 : PySem.W.hasDictIn K S = true) (h3 : PySem.W.typeIn K (.ref S) = some (.type "type")) (h4 : PySem.W.subIn K (.ref D) (.ref S) = some true) :
    PySem.W.exmOne K (.ref D) (.ref S) = some true := by
  have e1 : (PySem.W.subIn K (.ref S) (.type "BaseException") == some true) = true := by rw [h1] <;> rfl
  have h2' : (PySem.W.clsIn K S).isSome = true := by
    unfold PySem.W.hasDictIn at h2
    cases q : PySem.W.clsIn K S with
    | none => rw [q] at h2; cases h2
    | some _ => rfl
  have e2 : ((PySem.W.clsIn K S).isSome && PySem.W.typeIn K (.ref S) == some (.type "type")) = true := by
    rw [h2', h3] <;> rfl
  show (if (PySem.W.subIn K (.ref S) (.type "BaseException") == some true) = true then (if ((PySem.W.clsIn K S).isSome && PySem.W.typeIn K (.ref S) == some (.type "type")) = true then PySem.W.subIn K (.ref D) (.ref S) else none) else none) = some true
  rw [if_pos e1, if_pos e2]
  exact h4
theorem kit_eq (t : Value) : PySem.W.kitOne K t t = some true := by
  unfold PySem.W.kitOne
  rw [if_pos (by simp)]
theorem kit_NB (T : Tx K mg C CS CN CB) : PySem.W.kitOne K (.ref CN) (.ref CB) = some false := by
  unfold PySem.W.kitOne PySem.W.kitCls
  rw [if_neg (by intro z; have := eq_of_beq z; injection this with this; exact T.ne this)]
  dsimp only
  rw [if_pos (by rw [T.hCB, T.eB.ty]; rfl)]
  exact T.sNB
def spTold (C : Addr) : Sp := fun vs H Q _ => ∃ u v, vs = [u, v] ∧ ((NoCx H u ∧ ∀ H', Ex H H' → Q (.str "complex") H') ∨ ∃ F, Inst C H u F ∧ FOk F ∧ ((Odd F H v ∧ ∀ H', Ex H H' → Q (.str "bad") H') ∨
  ∃ ps, TpP kP H v ps ∧ PC ps ∧ (lpM F ps = false → ∀ H', Ex H H' → Q (.str "bad") H') ∧ (lpM F ps = true → ∀ z H', Ex H H' → IsS H' z (crit (counts F) ps) → Q z H')))
abbrev nTold : List Str := ["_law_shape", "_law_pairs", "e"]
theorem sc_told : FnScope nTold ["_law_shape", "_law_pairs"] (defScope (top 49)) := ⟨rfl, rfl, rfl, by decide +kernel, rfl, by decide +kernel, by decide +kernel⟩
def tsTold (K : PySem.W.Frag) (CB CN : Addr) (a : Addr) (cls : Value) (d : Option Addr) : TS :=
  tRet (tIf (tB (tCB (rIsEx K a cls d) (tCons (tVar 2) (tCons (tC (.ref CB)) tNil)))) (tC (.str "bad")) (tIf (tB (tCB (rIsEx K a cls d) (tCons (tVar 2) (tCons (tC (.ref CN)) tNil)))) (tC (.str "complex")) (tC (.str "other"))))
theorem ok_told (T : Tx K mg C CS CN CB) : Cal P w K mg base CX0 8 "_law_told" (spTold C) := by
  refine T.d_told.cal sc_told (fun vs H Q E h => ?_) (fun f cdv A outer s H vs Q E hr h => ?_)
  · obtain ⟨u, v, rfl, _⟩ := h
    rfl
  · obtain ⟨u, v, rfl, k⟩ := h
    refine ⟨_, pss_one (ps_try_as (i := 2) (tb := fun W => tRet (tCallS (spCrit C CN CB) (WE W) (tCons (tVar 0) (tCons (tVar 1) tNil)))) (ts := tsTold K CB CN) (Wout := fun _ _ _ _ => False) rfl rfl sc_told.nd rfl rfl ⟨rfl, by decide, Or.inl T.mgS⟩ takes0
        (fun W pn xe tk _ => pss_one (ps_ret (by exact (pe_cS (ok_critical T) hr (by decide) (fun σ => passAt tk σ) (pa_cons (pv 0) (pa_cons (pv 1) pa_nil))))))
        (fun a oe cls d pn hz hf => pss_one (ps_ret (by exact (pe_ifExp (pt_val (pe_callB (call_isEx hz hf) (by rfl) T.n_isinstance (by decide +kernel) (pa_cons (pv 2) (pa_cons (pe_glob (v := .ref CB) rfl T.eB.mgC rfl) pa_nil)))) pe_str
          (pe_ifExp (pt_val (pe_callB (call_isEx hz hf) (by rfl) T.n_isinstance (by decide +kernel) (pa_cons (pv 2) (pa_cons (pe_glob (v := .ref CN) rfl T.eN.mgC rfl) pa_nil)))) pe_str pe_str)))))), ?_⟩
    have hN : ∀ (H' : Hp) (E' : XK), (∀ H2, H2 = H' → Q (.str "complex") H2) → True := fun _ _ _ => trivial
    refine ⟨_, rfl, _, rfl, u, v, rfl, ?_⟩
    have exN := exm_of T.sS T.hS T.tS T.sNS
    have exB := exm_of T.sS T.hS T.tS T.sBS
    have bad : ∀ H', Q (.str "bad") H' → (WE (wAs K (.ref CS) 2 (tsTold K CB CN) (fun _ _ _ _ => False) { nx := fun _ H' => Q .non H', rt := Q }) (start nTold [u, v])) (.ref CB) none H' := fun H' q =>
      ⟨true, exB, fun _ a ha => ⟨_, rfl, CB, CB, true, rfl, rfl, T.eB.c, rfl, kit_eq _, true, rfl, iteT q⟩, fun z => Bool.noConfusion z⟩
    rcases k with ⟨hn, k⟩ | ⟨F, hI, ok, k⟩
    · refine .inl ⟨hn, ⟨true, exN, fun _ a ha => ⟨_, rfl, CN, CB, false, rfl, rfl, T.eN.c, rfl, kit_NB T, false, rfl, iteF ?_⟩, fun z => Bool.noConfusion z⟩⟩
      exact ⟨_, rfl, CN, CN, true, rfl, rfl, T.eN.c, rfl, kit_eq _, true, rfl, iteT (k _ (Ex.refl _))⟩
    · refine .inr ⟨F, hI, ok, ?_⟩
      rcases k with ⟨ho, k⟩ | ⟨ps, hv, pc, k1, k2⟩
      · exact .inl ⟨ho, fun H' e => bad H' (k H' e)⟩
      · exact .inr ⟨ps, hv, pc, fun hb H' e => bad H' (k1 hb H' e), fun hb z H' e hz => k2 hb z H' e hz⟩
end
end Sh
set_option Elab.async false
set_option linter.all false
set_option maxRecDepth 100000
set_option maxHeartbeats 4000000
namespace Sh
open PySem PySem.Spec PyProof.Rows L2 RZ
section
variable {P : Program} {w : World} {K : PySem.W.Frag} {mg : Str → Option Value} {base : Heap} {C CS CN CB : Addr}
end
/-! ### dict comprehensions over the keys of a dict -/
section
variable {tt : TT} {tk tv : TE} {vs : List Nat} {σ : L2.St} {H1 : Hp} {D : Addr} {Qd : Hp → Prop} {j : Nat}
theorem dcD_keys (hD : H1 D = none) {d : Addr} {od : Obj} {kvs0 : SV} (cnd : Sx → Bool) (Iv : Hp → List Sx → SV → Prop) (hd : H1 d = some (.frz od (.dT (km kvs0)))) (hz : kvs0.length ≤ 1000000) (hI0 : Iv (upd H1 D (.dT [])) [] [])
    (hw : ∀ x, wipe ((wipe σ vs).set j (some x)) vs = wipe σ vs)
    (hs : ∀ i x s H, (kvs0.map (·.1))[i]? = some s → Ex H1 H → IsS H x s → EvB tt ((wipe σ vs).set j (some x)) H (cnd s) ∧ (cnd s = true → EvD tk ((wipe σ vs).set j (some x)) H (fun y H4 => IsS H4 y s) ∧
      ∀ H4, Ex H H4 → ∀ kvs, kvs.length ≤ i → Iv H ((kvs0.map (·.1)).take i) kvs → EvD tv ((wipe σ vs).set j (some x)) H4 fun z H5 => Iv (upd H5 D (.dT (km (putK kvs s z)))) ((kvs0.map (·.1)).take i ++ [s]) (putK kvs s z)))
    (hno : ∀ i s H H' kvs, (kvs0.map (·.1))[i]? = some s → Ex H1 H → Ex H H' → cnd s = false → Iv H ((kvs0.map (·.1)).take i) kvs → Iv H' ((kvs0.map (·.1)).take i ++ [s]) kvs)
    (hdn : ∀ H' kvs, Ex H1 H' → H' D = some (.dT (km kvs)) → Iv H' (kvs0.map (·.1)) kvs → Qd H') :
    ∃ W : Nat → Nat → Hp → Prop, (∃ m, W 0 m (upd H1 D (.dT []))) ∧ ∀ i m H, W i m H →
      ((Itkt d od (km kvs0)).stop i H ∧ Qd H) ∨ ((Itkt d od (km kvs0)).go i H ∧ ∃ Nx : Hp → Prop, (∀ H', Nx H' → ∃ m', m' < m ∧ W (i + 1) m' H') ∧ ∀ x H', (Itkt d od (km kvs0)).yld i H x H' → gName j x (wipe σ vs) H' fun σ2 H2 => wipe σ2 vs = wipe σ vs ∧ tt σ2 H2 fun b H3 =>
        if b = true then tk σ2 H3 fun y H4 => tv σ2 H4 fun z H5 => ∃ kvs k, IsS H5 y k ∧ H5 D = some (.dT (km kvs)) ∧ kvs.length ≤ 1000000 ∧ Nx (upd H5 D (.dT (km (putK kvs k z)))) else Nx H3) := by
  have hl : (kvs0.map (·.1)).length = kvs0.length := List.length_map _
  have tk1 : ∀ {i s}, (kvs0.map (·.1))[i]? = some s → (kvs0.map (·.1)).take (i + 1) = (kvs0.map (·.1)).take i ++ [s] := fun {i s} h => by
    rw [List.take_succ, h]
    rfl
  refine dcJ (kvs0.map (·.1)).length (fun i => ((kvs0.map (·.1))[i]?).bind fun s => if cnd s = true then some s else none) (fun H i kvs => Iv H ((kvs0.map (·.1)).take i) kvs) (by omega) hD hI0
    (fun i H hi e => ⟨e _ _ hd, by rw [km_len]; omega⟩) (fun H e => ⟨e _ _ hd, by rw [km_len]; omega⟩) (fun i x H H' hi e hy => ?_) (fun i H H' kvs hi e e2 hc hiv => ?_) (fun H' kvs e h1 _ h3 => hdn H' kvs e h1 (by rw [List.take_length] at h3; exact h3))
  · obtain ⟨rfl, kk', v, q, hk, rfl, hq⟩ := hy
    rw [km_get] at hk
    obtain ⟨p, hp, ep⟩ := Option.map_eq_some_iff.mp hk
    simp only [Prod.mk.injEq] at ep
    obtain ⟨rfl, rfl⟩ := ep
    have hbi : (kvs0.map (·.1))[i]? = some p.1 := by rw [List.getElem?_map, hp]; rfl
    have hR := IsS.of_key hq
    obtain ⟨h1, h2⟩ := hs i _ p.1 H' hbi e hR
    refine ⟨_, H', Ex.refl _, fun _ q => q, hw _, ?_, fun s hc => ?_⟩
    · rw [hbi]
      show EvB _ _ _ (if cnd p.1 = true then some p.1 else none).isSome
      rw [ite_isSome]
      exact h1
    · rw [hbi] at hc
      have hc : (if cnd p.1 = true then some p.1 else none) = some s := hc
      obtain ⟨hc1, rfl⟩ := ite_some hc
      obtain ⟨h3, h4⟩ := h2 hc1
      refine ⟨h3, fun H4 e4 kvs hkl hiv => ?_⟩
      have := h4 H4 e4 kvs hkl hiv
      rw [tk1 hbi]
      exact this
  · have hbi : (kvs0.map (·.1))[i]? = some (kvs0.map (·.1))[i] := List.getElem?_eq_getElem hi
    rw [hbi] at hc
    have hc : (if cnd (kvs0.map (·.1))[i] = true then some (kvs0.map (·.1))[i] else none) = none := hc
    rw [tk1 hbi]
    refine hno i _ H H' kvs hbi e e2 ?_ hiv
    cases q : cnd (kvs0.map (·.1))[i] with
    | false => rfl
    | true => rw [q] at hc; cases hc
end
section
variable {P : Program} {w : World} {K : PySem.W.Frag} {mg : Str → Option Value} {base : Heap} {C CS CN CB : Addr}
/-! ### without -/
def spWithout : Sp := fun vs H Q _ => ∃ df v F p, vs = [.ref df, v] ∧ DtAt H df (sd F) ∧ F.Nodup ∧ F.length ≤ 1000 ∧ kP.R H v p ∧ ∀ d H', Ex H H' → H d = none → DtAt H' d (sd (without F p)) → Q (.ref d) H'
theorem sc_without : FnScope ["faces", "pair", "simplex"] ["faces", "pair"] (defScope (top 33)) := ⟨rfl, rfl, rfl, by decide +kernel, rfl, by decide +kernel, by decide +kernel⟩
theorem ok_without (T : Tx K mg C CS CN CB) : Cal P w K mg base CX0 1 "without" spWithout := by
  refine T.d_without.cal sc_without (fun vs H Q E h => ?_) (fun f cdv A outer s H vs Q E hr h => ?_)
  · obtain ⟨u, v, F, p, rfl, _⟩ := h
    rfl
  · obtain ⟨df, v, F, p, rfl, hF, hnd, hfl, hv, k⟩ := h
    have hu : (A.deeper (envOfC "without" (defScope (top 33)) s.heap.objs.size f cdv)).units + 64 < cLine := hr.units
    have hu2 : (A.deeper (envOfC "without" (defScope (top 33)) s.heap.objs.size f cdv)).units + 65 < cLine := by have := hr.un; omega
    refine ⟨_, pss_one (ps_ret (pe_lock (pe_dcT (own := [("simplex", 2)]) (g := gName 2) (tt := tTest (tOp (rNinT kS) (tVar 2) (tVar 1))) (tk := tVar 2) (tv := tC (.bl true)) hu rfl sc_without.nd (pi_keys (pv 0)) (blkOk_by (N := ["faces", "pair", "simplex"]) (sc := defScope (top 33)) (by decide +kernel))
      (fun _ _ _ _ _ => pg_name (i := 2) sc_without.nd rfl (Or.inl rfl)) (fun _ _ _ _ _ => pts_one (pt_cmpR (op_ninT kS (by decide) hu2) (pv 2) (pv 1) rfl)) (fun _ _ _ _ _ => pv 2) (fun _ _ _ _ _ => pe_bl)))), ?_⟩
    refine ⟨df, _, hF, mut_dT, fun od => ?_⟩
    refine ⟨_, rfl, df, od, rfl, .inr ⟨_, upd_same, fun D hD => ?_⟩⟩
    have hFk : H df = some (.dT (km (sd F))) := hF
    have hDd : D ≠ df := fun q => by
      rw [q, upd_same] at hD
      cases hD
    have hD0 : H D = none := by
      rw [upd_ne hDd] at hD
      exact hD
    have hvl : kP.R (upd H df (.frz od (.dT (km (sd F))))) v p := kP.mono (TEx.wrT hF) hv
    refine dcD_keys hD (fun s => !(decide (s = p.1) || decide (s = p.2))) (fun _ done kvs => kvs = sd (done.filter fun s => !(decide (s = p.1) || decide (s = p.2)))) upd_same (by rw [sd_len]; omega) rfl (by intros; rfl)
      (fun i x s H1 hi e1 hx => ⟨?_, fun hc => ⟨?_, ?_⟩⟩) (fun i s H1 H2 kvs hi e1 e2 hc hiv => ?_) (fun H1 kvs e1 h1 hiv => ?_)
    · intro H2 e2 Q q
      obtain ⟨y, z, ⟨ap, rfl, hap⟩, hy, hz⟩ := kP_at (kP.mono (e1.trans e2).t hvl)
      refine ⟨_, rfl, _, rfl, s, [p.1, p.2], hx.mono e2.t, ⟨ap, _, rfl, hap, .cons hy (.cons hz .nil)⟩, _, rfl, ?_⟩
      refine (congrArg (fun b => Q b H2) ?_).mpr (q _ (Ex.refl _))
      by_cases q1 : s = p.1 <;> by_cases q2 : s = p.2 <;> simp [q1, q2]
    · exact fun H2 e2 Q q => ⟨_, rfl, q _ _ (Ex.refl _) (hx.mono e2.t)⟩
    · intro H4 e4 kvs hkl hiv H5 e5 Q q
      refine q _ _ (Ex.refl _) ?_
      show putK kvs s (.bl true) = sd _
      rw [hiv, sd_put]
      have hns : s ∉ ((sd F).map (·.1)).take i := by
        rw [sd_keys] at hi ⊢
        intro hm
        obtain ⟨j, hj, e⟩ := List.mem_iff_getElem.mp hm
        rw [List.length_take] at hj
        rw [List.getElem_take] at e
        obtain ⟨hil, e2⟩ := List.getElem?_eq_some_iff.mp hi
        have := (List.getElem_inj (h₀ := by omega) (h₁ := hil) hnd).mp (e.trans e2.symm)
        omega
      have : addK ((((sd F).map (·.1)).take i).filter fun s => !(decide (s = p.1) || decide (s = p.2))) s = (((sd F).map (·.1)).take i ++ [s]).filter fun s => !(decide (s = p.1) || decide (s = p.2)) := by
        unfold addK
        rw [if_neg fun z => hns (List.mem_filter.mp z).1, List.filter_append, List.filter_cons_of_pos (p := fun s => !(decide (s = p.1) || decide (s = p.2))) hc]
        rfl
      rw [this]
    · rw [hiv, List.filter_append, List.filter_cons_of_neg (p := fun s => !(decide (s = p.1) || decide (s = p.2))) (by rw [hc]; exact Bool.false_ne_true)]
      rw [List.filter_nil, List.append_nil]
    · have hlk1 := e1 _ _ (upd_same (H := H) (a := df) (o := .frz od (.dT (km (sd F)))))
      refine ⟨hlk1, k D _ (Ex.unlock hF e1) hD0 ?_⟩
      show upd H1 df _ D = _
      rw [upd_ne hDd, h1, hiv, sd_keys]
      rfl
end
end Sh
set_option Elab.async false
set_option linter.all false
set_option maxRecDepth 100000
set_option maxHeartbeats 4000000
namespace Sh
open PySem PySem.Spec PyProof.Rows L2 RZ
section
variable {P : Program} {w : World} {K : PySem.W.Frag} {mg : Str → Option Value} {base : Heap} {C CS CN CB : Addr}
/-! ### holders_of -/
/-- the pairs of the dict: each face with its own list -/
def HoldP (H0 H : Hp) (kvs : SV) (F : List Sx) (g : Sx → List Sx) : Prop := Paired (fun (q : Sx × V) s => q.1 = s ∧ ∃ l vs, q.2 = .ref l ∧ H0 l = none ∧ H l = some (.lst vs) ∧ Paired (kS.R H) vs (g s)) kvs F
theorem HoldP.ex {H0 H H' : Hp} {kvs : SV} {F : List Sx} {g : Sx → List Sx} (e : Ex H H') (h : HoldP H0 H kvs F g) : HoldP H0 H' kvs F g :=
  pr_mono h fun _ _ ⟨e1, l, vs, e2, h0, hl, hp⟩ => ⟨e1, l, vs, e2, h0, e _ _ hl, pr_kmono kS e.t hp⟩
theorem HoldP.congr {H0 H : Hp} {g g' : Sx → List Sx} : ∀ {kvs : SV} {F : List Sx}, HoldP H0 H kvs F g → (∀ s ∈ F, g s = g' s) → HoldP H0 H kvs F g'
  | _, _, .nil, _ => .nil
  | _, _, .cons ⟨e1, l, vs, e2, h0, hl, hp⟩ t, h => .cons ⟨e1, l, vs, e2, h0, hl, by rw [← h _ List.mem_cons_self]; exact hp⟩ (HoldP.congr t fun s hs => h s (List.mem_cons_of_mem _ hs))
/-- a thing that is no list may change -/
theorem HoldP.dt {H0 H : Hp} {kvs : SV} {F : List Sx} {g : Sx → List Sx} {d : Addr} {o u : HO} (h : HoldP H0 H kvs F g) (hd : H d = some u) (hn : ∀ xs, u ≠ .lst xs) (ht : TEx H (upd H d o)) : HoldP H0 (upd H d o) kvs F g :=
  pr_mono h fun _ _ ⟨e1, l, vs, e2, h0, hl, hp⟩ => ⟨e1, l, vs, e2, h0, by
    rw [upd_ne fun q => by
      rw [q, hd] at hl
      exact hn _ (Option.some.inj hl)]
    exact hl, pr_kmono kS ht hp⟩
theorem HoldP.keys {H0 H : Hp} {g : Sx → List Sx} : ∀ {kvs : SV} {F : List Sx}, HoldP H0 H kvs F g → kvs.map (·.1) = F
  | _, _, .nil => rfl
  | _, _, .cons r t => by rw [List.map_cons, r.1, HoldP.keys t]
/-- a list that is no one's may change -/
theorem HoldP.other {H0 H : Hp} {kvs : SV} {F : List Sx} {g : Sx → List Sx} {l0 : Addr} {ws : List V} {o : HO} (h : HoldP H0 H kvs F g) (hl0 : H l0 = some (.lst ws)) (hno : ∀ q ∈ kvs, q.2 ≠ .ref l0) : HoldP H0 (upd H l0 o) kvs F g := by
  have te : TEx H (upd H l0 o) := TEx.wrL hl0
  induction h with
  | nil => exact .nil
  | cons r t ih =>
    obtain ⟨e1, l, vs, e2, h0, hl, hp⟩ := r
    refine .cons ⟨e1, l, vs, e2, h0, ?_, pr_kmono kS te hp⟩ (ih fun q hq => hno q (List.mem_cons_of_mem _ hq))
    have : l ≠ l0 := fun q => hno _ List.mem_cons_self (by rw [e2, q])
    rw [upd_ne this]
    exact hl
/-- one more in the list of s0 -/
theorem HoldP.app {H0 H : Hp} {g : Sx → List Sx} {s0 : Sx} : ∀ {kvs : SV} {F : List Sx}, HoldP H0 H kvs F g → F.Nodup → (kvs.map (·.2)).Nodup → s0 ∈ F →
    ∃ l0 ws, valV kvs s0 = some (.ref l0) ∧ V.ref l0 ∈ kvs.map (·.2) ∧ H0 l0 = none ∧ H l0 = some (.lst ws) ∧ Paired (kS.R H) ws (g s0) ∧ ∀ y b, IsS H y b → HoldP H0 (upd H l0 (.lst (ws ++ [y]))) kvs F (fun s => if s = s0 then g s ++ [b] else g s)
  | _, _, .nil, _, _, hs => nomatch hs
  | _, _, .cons (a := a) (b := b) (l₁ := kvs) (l₂ := F) r t, hn, hd, hs => by
    rw [List.nodup_cons] at hn
    rw [List.map_cons, List.nodup_cons] at hd
    by_cases e : b = s0
    · subst e
      obtain ⟨e1, l, vs, e2, h0, hl, hp⟩ := r
      refine ⟨l, vs, ?_, ?_, h0, hl, hp, fun y c hy => ?_⟩
      · rw [valV_pos e1, e2]
      · rw [List.map_cons, e2]
        exact List.mem_cons_self
      · have te : TEx H (upd H l (.lst (vs ++ [y]))) := TEx.wrL hl
        refine .cons ⟨e1, l, _, e2, h0, upd_same, ?_⟩ ?_
        · dsimp only
          rw [if_pos rfl]
          exact pr_snoc (pr_kmono kS te hp) (hy.mono te)
        · have h1 := HoldP.other (o := .lst (vs ++ [y])) t hl fun q hq z => hd.1 (by
            rw [e2, ← z]
            exact List.mem_map.mpr ⟨q, hq, rfl⟩)
          refine HoldP.congr h1 fun s hs => ?_
          show g s = if s = b then _ else g s
          rw [if_neg fun (z : s = b) => hn.1 (z ▸ hs)]
    · rcases List.mem_cons.mp hs with h | hs
      · exact absurd h.symm e
      · obtain ⟨l0, ws, hv, hm, h0, hl, hp, hk⟩ := HoldP.app t hn.2 hd.2 hs
        obtain ⟨e1, l, vs, e2, h0', hl', hp'⟩ := r
        refine ⟨l0, ws, ?_, by rw [List.map_cons]; exact List.mem_cons_of_mem _ hm, h0, hl, hp, fun y c hy => ?_⟩
        · rw [valV_neg (by rw [e1]; exact e)]
          exact hv
        · have te : TEx H (upd H l0 (.lst (ws ++ [y]))) := TEx.wrL hl
          refine .cons ⟨e1, l, vs, e2, h0', ?_, ?_⟩ (hk y c hy)
          · have : l ≠ l0 := fun q => hd.1 (by rw [e2, q]; exact hm)
            rw [upd_ne this]
            exact hl'
          · dsimp only
            rw [if_neg e]
            exact pr_kmono kS te hp'
def holdB (s b : Sx) : List Sx := (List.range b.length).filterMap fun i => if 1 < b.length ∧ b.eraseIdx i = s then some b else none
theorem hold_eq (F : List Sx) (s : Sx) : hold F s = F.flatMap (holdB s) := rfl
def spHold : Sp := fun vs H Q _ => ∃ df F, vs = [.ref df] ∧ DtAt H df (sd F) ∧ FOk F ∧ Clo F ∧ ∀ d kvs H', Ex H H' → H d = none → DtAt H' d kvs → HoldP H H' kvs F (hold F) → Q (.ref d) H'
abbrev nHold : List Str := ["faces", "found", "simplex", "at"]
theorem sc_hold : FnScope nHold ["faces"] (defScope (top 31)) := ⟨rfl, rfl, rfl, by decide +kernel, rfl, by decide +kernel, by decide +kernel⟩
theorem ok_holders (T : Tx K mg C CS CN CB) : Cal P w K mg base CX0 1 "holders_of" spHold := by
  refine T.d_holders_of.cal sc_hold (fun vs H Q E h => ?_) (fun f cdv A outer s H vs Q E hr h => ?_)
  · obtain ⟨u, F, rfl, _⟩ := h
    rfl
  · obtain ⟨df, F, rfl, hF, ok, clo, k⟩ := h
    have hu : (A.deeper (envOfC "holders_of" (defScope (top 31)) s.heap.objs.size f cdv)).units + 64 < cLine := hr.units
    have hu1 : (A.deeper (envOfC "holders_of" (defScope (top 31)) s.heap.objs.size f cdv)).units + 1 < cLine := by omega
    refine ⟨_, pss_cons (ps_lock (ps_setDcT (i := 1) (own := [("simplex", 2)]) (g := gName 2) (tt := tYes) (tk := tVar 2) (tv := tLst tNil) hu rfl sc_hold.nd rfl rfl (sw_dict rfl rfl rfl (by decide +kernel)) (pi_keys (pv 0)) (blkOk_by (N := nHold) (sc := defScope (top 31)) (by decide +kernel))
        (fun _ _ _ _ _ => pg_name (i := 2) sc_hold.nd rfl (Or.inl rfl)) (fun _ _ _ _ _ => pts_nil) (fun _ _ _ _ _ => pv 2) (fun _ _ _ _ _ => pe_lst pa_nil)))
      (pss_cons (ps_lock (ps_for PassesOwn.never rfl (pi_keys (pv 0)) (pg_name (i := 2) sc_hold.nd rfl (Or.inl rfl))
        (pss_one (ps_for PassesOwn.never rfl (pi_range1 rfl T.n_range (pa_cons (pe_callB call_len_seq (by rfl) T.n_len PySem.boot_len (pa_cons (pv 2) pa_nil)) pa_nil)) (pg_name (i := 3) sc_hold.nd rfl (Or.inl rfl))
          (pss_one (ps_if (pt_cmpR op_gt (pe_callB call_len_seq (by rfl) T.n_len PySem.boot_len (pa_cons (pv 2) pa_nil)) pe_int (nomark _))
            (pss_one (ps_expr (pe_bm PySem.F.plainAttrs_list PySem.F.slot_list_append PySem.F.type_list_append mt_append (pe_dget hu1 (pv 1) (pe_op op_catD (pe_slice sl_D (pv 2) po_none (po_some (pv 3))) (pe_slice sl_D (pv 2) (po_some (pe_op op_add (pv 3) pe_int)) po_none)) (fun _ _ => rfl)) (pa_cons (pv 2) pa_nil)))) pss_nil))))))
      (pss_one (ps_ret (pv 1)))), ?_⟩
    refine ⟨df, _, hF, mut_dT, fun od => ?_⟩
    refine ⟨_, rfl, df, od, rfl, .inr ⟨_, upd_same, fun D hD => ?_⟩⟩
    have hDd : D ≠ df := fun q => by
      rw [q, upd_same] at hD
      cases hD
    have hD0 : H D = none := by
      rw [upd_ne hDd] at hD
      exact hD
    have hFl := ok.len
    refine dcD_keys hD (fun _ => true) (fun H' done kvs => H' D = some (.dT (km kvs)) ∧ HoldP H H' kvs done (fun _ => []) ∧ (kvs.map (·.2)).Nodup) upd_same (by rw [sd_len]; omega) ⟨upd_same, .nil, List.nodup_nil⟩ (by intros; rfl)
      (fun i x s H1 hi e1 hx => ⟨evb_yes, fun hc => ⟨fun H2 e2 Q q => ⟨_, rfl, q _ _ (Ex.refl _) (hx.mono e2.t)⟩, ?_⟩⟩) (fun i s H1 H2 kvs hi e1 e2 hc hiv => by cases hc) (fun H1 kvs e1 h1 hiv => ?_)
    · intro H4 e4 kvs hkl hiv H5 e5 Q q
      refine ⟨Nat.zero_le _, fun l hl => q _ _ (Ex.new hl) ?_⟩
      have e45 := e4.trans e5
      have el : Ex H5 (upd H5 l (.lst [])) := Ex.new hl
      have eall := (e1.trans e45).trans el
      have hns : s ∉ ((sd F).map (·.1)).take i := by
        rw [sd_keys] at hi ⊢
        intro hm
        obtain ⟨j, hj, e⟩ := List.mem_iff_getElem.mp hm
        rw [List.length_take] at hj
        rw [List.getElem_take] at e
        obtain ⟨hil, e2⟩ := List.getElem?_eq_some_iff.mp hi
        have := (List.getElem_inj (h₀ := by omega) (h₁ := hil) ok.nd).mp (e.trans e2.symm)
        omega
      have hkeys := hiv.2.1.keys
      have hput : putK kvs s (.ref l) = kvs ++ [(s, .ref l)] := by
        unfold putK
        rw [if_neg]
        rw [Bool.not_eq_true, List.any_eq_false]
        intro q hq z
        have : q.1 = s := of_decide_eq_true z
        exact hns (by rw [← hkeys, ← this]; exact List.mem_map.mpr ⟨q, hq, rfl⟩)
      have hl1 : H1 l = none := e45.back hl
      have hlH : H l = none := by
        have := e1.back hl1
        by_cases q : l = df
        · rw [q, upd_same] at this
          cases this
        · rw [upd_ne q] at this
          exact this
      have h6 := hiv.2.1.ex (e45.trans el)
      have hD6 := (e45.trans el) _ _ hiv.1
      have hlD : upd H5 l (.lst []) l = some (.lst []) := upd_same
      show upd _ D _ D = _ ∧ HoldP H (upd (upd H5 l (.lst [])) D (.dT (km (putK kvs s (.ref l))))) (putK kvs s (.ref l)) _ _ ∧ ((putK kvs s (.ref l)).map (·.2)).Nodup
      rw [hput]
      refine ⟨upd_same, ?_, ?_⟩
      · refine HoldP.dt ?_ hD6 (fun _ z => nomatch z) (TEx.wrT hD6)
        exact pr_append h6 (.cons ⟨rfl, l, [], rfl, hlH, upd_same, .nil⟩ .nil)
      · rw [List.map_append, List.nodup_append]
        refine ⟨hiv.2.2, by simp, fun a ha b hb => ?_⟩
        rintro rfl
        simp at hb
        subst hb
        obtain ⟨q, hq, e⟩ := List.mem_map.mp ha
        obtain ⟨i', hi', e2⟩ := List.mem_iff_getElem.mp hq
        obtain ⟨_, _, _, l', vs', e3, _, hl', _⟩ := pr_get hiv.2.1 (List.getElem?_eq_getElem hi')
        rw [e2, e] at e3
        cases e3
        rw [hl1] at hl'
        cases hl'
    · rw [sd_keys] at hiv
      obtain ⟨_, hH1, hdn⟩ := hiv
      have hlk1 := e1 _ _ (upd_same (H := H) (a := df) (o := .frz od (.dT (km (sd F)))))
      refine ⟨hlk1, ?_⟩
      have eU : Ex H (upd H1 df (.dT (km (sd F)))) := Ex.unlock hF e1
      have hHU : HoldP H (upd H1 df (.dT (km (sd F)))) kvs F (fun _ => []) := HoldP.dt hH1 hlk1 (fun _ z => nomatch z) (TEx.wrF hlk1)
      have hDU : DtAt (upd H1 df (.dT (km (sd F)))) D kvs := (upd_ne hDd).trans h1
      generalize upd H1 df (.dT (km (sd F))) = HU at eU hHU hDU ⊢
      have hFU := eU _ _ hF
      refine ⟨df, _, hFU, mut_dT, fun od2 => ?_⟩
      refine ⟨_, rfl, df, od2, rfl, .inr ⟨_, upd_same, ?_⟩⟩
      refine forR_keys (kvs := sd F) (fun r σ Hk => Hk df = some (.frz od2 (.dT (km (sd F)))) ∧ Ex H (upd Hk df (.dT (km (sd F)))) ∧ ∃ o2 o3 g, σ = [some (V.ref df), some (V.ref D), o2, o3] ∧ DtAt Hk D kvs ∧ HoldP H Hk kvs F g ∧ (∀ s, (g s).length + 8 * r.length ≤ 8 * F.length) ∧ ∀ s, g s ++ r.flatMap (holdB s) = hold F s)
        ⟨upd_same, ?_, none, none, fun _ => [], rfl, (upd_ne hDd).trans hDU, HoldP.dt hHU hFU (fun _ z => nomatch z) (TEx.wrT hFU), fun s => by rw [sd_keys]; simp, fun s => by rw [sd_keys]; rfl⟩ (fun r σ Hk p => p.1) ?_ ?_
      · exact Ex.unlock (od := od2) hF (fun a o ha => by
          by_cases q : a = df
          · rw [q, upd_same] at ha
            rw [q, upd_same]
            exact ha
          · rw [upd_ne q] at ha ⊢
            exact eU _ _ ha)
      · rintro b r y σ Hk hy hb ⟨hlk, ek, o2, o3, g, rfl, hDk, hHk, hgl, hg⟩
        rw [sd_keys] at hb
        have hb7 := ok.a7 b hb
        have hbl := a7_len hb7
        obtain ⟨ya, rfl, hya⟩ := id hy
        refine ⟨_, rfl, ya, _, rfl, .inr (SqT.of hya), _, rfl, by omega, by rw [List.length_map]; omega, ?_⟩
        rw [List.length_map, Int.toNat_natCast]
        refine forR_rng (fun i σ Hm => TEx Hk Hm ∧ Hm df = some (.frz od2 (.dT (km (sd F)))) ∧ Ex H (upd Hm df (.dT (km (sd F)))) ∧ ∃ o3 g2, σ = [some (V.ref df), some (V.ref D), some (V.ref ya), o3] ∧ DtAt Hm D kvs ∧ HoldP H Hm kvs F g2 ∧ (∀ s, (g2 s).length ≤ (g s).length + i) ∧
            ∀ s, g2 s ++ ((List.range b.length).drop i).filterMap (fun i => if 1 < b.length ∧ b.eraseIdx i = s then some b else none) = g s ++ holdB s b)
          ⟨TEx.refl _, hlk, ek, o3, g, rfl, hDk, hHk, fun s => Nat.le_refl _, fun s => rfl⟩ ?_ ?_
        · rintro i σ Hm hi ⟨et, hlkm, em, o4, g2, rfl, hDm, hHm, hg2l, hg2⟩
          have hr : (List.range b.length)[i]? = some i := by rw [List.getElem?_range hi]
          have hyam := et.d _ _ hya
          refine ⟨_, rfl, ya, _, rfl, .inr (SqT.of hyam), _, _, rfl, rfl, _, rfl, ?_⟩
          rw [List.length_map]
          by_cases h1b : 1 < b.length
          · rw [decide_eq_true (by omega)]
            refine iteT ⟨_, rfl, face_of (i := 2) (j := 3) rfl rfl (hy.mono et) hi (by omega) fun z H3 e3 hz => ?_⟩
            have hfF := clo b hb i hi h1b
            have hH3 := hHm.ex e3
            obtain ⟨l0, ws, hv0, hm0, h00, hl0, hp0, hk0⟩ := hH3.app ok.nd hdn hfF
            have hD3 := e3 _ _ hDm
            have hlen0 := pr_len hp0
            have hb0 := hg2l (b.eraseIdx i)
            have hb1 := hgl (b.eraseIdx i)
            rw [List.length_cons] at hb1
            refine ⟨D, .ref l0, rfl, ?_, .inl ⟨rfl, _, SqL.of hl0⟩, _, rfl, l0, _, _, rfl, rfl, hl0, sz5l (by omega), ?_⟩
            · rw [← hv0]
              exact get_of (.inl hD3) hz
            have hlD : l0 ≠ D := fun q => by
              have hD3' : H3 D = some (.dT (km kvs)) := hD3
              rw [q, hD3'] at hl0
              cases hl0
            have hldf : l0 ≠ df := fun q => by
              rw [q, e3 _ _ hlkm] at hl0
              cases hl0
            have tel := et.trans (e3.t.trans (TEx.wrL hl0 (o := .lst (ws ++ [.ref ya]))))
            refine ⟨tel, (upd_ne (Ne.symm hldf)).trans (e3 _ _ hlkm), fun a o ha => ?_, _, _, rfl, (upd_ne (Ne.symm hlD)).trans hD3, hk0 _ b (hy.mono (et.trans e3.t)), fun s => ?_, fun s => ?_⟩
            · by_cases q : a = df
              · have := em _ _ ha
                rw [q, upd_same] at this ⊢
                exact this
              · have := em _ _ ha
                rw [upd_ne q] at this
                rw [upd_ne q, upd_ne (ne_of_none ha h00)]
                exact e3 _ _ this
            · have := hg2l s
              split
              · rw [List.length_append]
                show (g2 s).length + 1 ≤ _
                omega
              · omega
            · rw [← hg2 s, drop_cons hr, List.filterMap_cons]
              by_cases q : s = b.eraseIdx i
              · rw [if_pos q, if_pos ⟨h1b, q.symm⟩, List.append_assoc]
                rfl
              · rw [if_neg q, if_neg (fun z => q z.2.symm)]
          · rw [decide_eq_false (by omega)]
            refine iteF ⟨et, hlkm, em, _, g2, rfl, hDm, hHm, fun s => by have := hg2l s; omega, fun s => ?_⟩
            rw [← hg2 s, drop_cons hr, List.filterMap_cons, if_neg (fun z => h1b z.1)]
        · rintro σ Hm ⟨et, hlkm, em, o4, g2, rfl, hDm, hHm, hg2l, hg2⟩
          refine ⟨hlkm, em, _, o4, g2, rfl, hDm, hHm, fun s => ?_, fun s => ?_⟩
          · have h1 := hg2l s
            have h2 := hgl s
            rw [List.length_cons] at h2
            omega
          · have h1 := hg2 s
            rw [List.drop_eq_nil_of_le (by rw [List.length_range]; exact Nat.le_refl _)] at h1
            have h1 : g2 s = g s ++ holdB s b := by rw [← h1]; exact (List.append_nil _).symm
            rw [h1, ← hg s, List.flatMap_cons, List.append_assoc]
      · rintro σ Hk ⟨hlk, ek, o2, o3, g, rfl, hDk, hHk, hgl, hg⟩
        refine ⟨hlk, _, rfl, k D kvs _ ek hD0 ((upd_ne hDd).trans hDk) ?_⟩
        refine HoldP.congr (HoldP.dt hHk hlk (fun _ z => nomatch z) (TEx.wrF hlk)) fun s hs => ?_
        rw [← hg s]
        exact (List.append_nil _).symm
end
end Sh
set_option Elab.async false
set_option linter.all false
set_option maxRecDepth 100000
set_option maxHeartbeats 4000000
namespace Sh
open PySem PySem.Spec PyProof.Rows L2 RZ
section
variable {P : Program} {w : World} {K : PySem.W.Frag} {mg : Str → Option Value} {base : Heap} {C CS CN CB : Addr}
/-! ### free_in -/
theorem free1_some {F : List Sx} {s : Sx} {c : Sx × Sx} (h : free1 F s = some c) : c.1 = s ∧ hold F s = [c.2] := by
  unfold free1 at h
  split at h
  · rename_i b hb
    cases h
    exact ⟨rfl, hb⟩
  · cases h
theorem free1_isSome (F : List Sx) (s : Sx) : (free1 F s).isSome = decide ((hold F s).length = 1) := by
  unfold free1
  split
  · rename_i b hb
    rw [hb]
    rfl
  · rename_i hb
    symm
    rw [Option.isSome_none, decide_eq_false_iff_not]
    intro h
    obtain ⟨b, e⟩ := List.length_eq_one_iff.mp h
    exact hb b e
def spFree : Sp := fun vs H Q _ => ∃ df F, vs = [.ref df] ∧ DtAt H df (sd F) ∧ FOk F ∧ Clo F ∧ ∀ v H', Ex H H' → (∀ a, v = .ref a → H a = none) → LsD kP H' v (freeM F) → Q v H'
abbrev nFree : List Str := ["faces", "holders", "found", "simplex", "some"]
theorem sc_free : FnScope nFree ["faces"] (defScope (top 32)) := ⟨rfl, rfl, rfl, by decide +kernel, rfl, by decide +kernel, by decide +kernel⟩
theorem ok_free (T : Tx K mg C CS CN CB) : Cal P w K mg base CX0 2 "free_in" spFree := by
  refine T.d_free_in.cal sc_free (fun vs H Q E h => ?_) (fun f cdv A outer s H vs Q E hr h => ?_)
  · obtain ⟨u, F, rfl, _⟩ := h
    rfl
  · obtain ⟨df, F, rfl, hF, ok, clo, k⟩ := h
    have hu : (A.deeper (envOfC "free_in" (defScope (top 32)) s.heap.objs.size f cdv)).units + 64 < cLine := hr.units
    refine ⟨_, pss_cons (ps_set (i := 1) sc_free.nd rfl (Or.inl rfl) (pe_c (ok_holders T) hr (by decide) pass0 (pa_cons (pv 0) pa_nil)))
      (pss_cons (ps_lock (ps_setLc (i := 2) (own := [("simplex", 3), ("some", 4)]) (g := gTup K 2 (gCons (gName 3) (gCons (gName 4) gNil))) (tt := tTest (tOp rEq (tCB (rLen1 K) (tCons (tVar 4) tNil)) (tC (.int 1)))) (te := tTup (tCons (tVar 3) (tCons (tOp (rIxL K) (tVar 4) (tC (.int 0))) tNil)))
        rfl sc_free.nd rfl rfl (sw_true rfl rfl rfl (by decide +kernel)) (pi_itemsT (pv 1)) (blkOk_by (N := nFree) (sc := defScope (top 32)) (by decide +kernel))
        (fun _ _ _ _ _ => pg_tup rfl (pgs_cons (pg_name (i := 3) sc_free.nd rfl (Or.inl rfl)) (pgs_cons (pg_name (i := 4) sc_free.nd rfl (Or.inl rfl)) pgs_nil)))
        (fun _ _ _ _ _ => pts_one (pt_cmpR op_eq (pe_callB call_len_seq (by rfl) T.n_len PySem.boot_len (pa_cons (pv 4) pa_nil)) pe_int (nomark _)))
        (fun _ _ _ _ _ => pe_tup (pa_cons (pv 3) (pa_cons (pe_ix ix_list (pv 4) pe_int (fun _ _ => rfl)) pa_nil)))))
      (pss_one (ps_ret (pe_callB (cr_sortK kP hu) (by rfl) T.n_sorted (by decide +kernel) (pa_cons (pv 2) pa_nil))))), ?_⟩
    refine ⟨_, rfl, df, F, rfl, hF, ok, clo, fun d kvs H1 e1 hd hD hH => ?_⟩
    refine ⟨d, _, hD, mut_dT, fun od => ?_⟩
    refine ⟨_, rfl, d, od, kvs, rfl, upd_same, fun D hDn => ?_⟩
    have hD' : H1 d = some (.dT (km kvs)) := hD
    have hHL : HoldP H (upd H1 d (.frz od (.dT (km kvs)))) kvs F (hold F) := HoldP.dt hH hD' (fun _ z => nomatch z) (TEx.wrT hD')
    have hkl : kvs.length = F.length := pr_len hH
    have hFl := ok.len
    have item : ∀ p ∈ kvs, ∃ l vs, p.2 = .ref l ∧ (upd H1 d (.frz od (.dT (km kvs)))) l = some (.lst vs) ∧ Paired (kS.R (upd H1 d (.frz od (.dT (km kvs))))) vs (hold F p.1) := fun p hp => by
      obtain ⟨i, hi, e⟩ := List.mem_iff_getElem.mp hp
      obtain ⟨s, _, e1, l, vs, e2, _, hl, hpp⟩ := pr_get hHL (List.getElem?_eq_getElem hi)
      rw [e] at e1 e2
      exact ⟨l, vs, e2, hl, by rw [e1]; exact hpp⟩
    refine lcD_items hDn kP (fun p => free1 F p.1) upd_same (by omega) (by intros; rfl) (fun x p H2 e2 hx hp => ?_) (fun x p c H2 e2 hx hp hc => ?_) (fun H2 e2 hL => ?_)
    · obtain ⟨l, vs, e3, hl, hpp⟩ := item p hp
      intro H3 e4 Q q
      have hl3 := (e2.trans e4) _ _ hl
      refine ⟨_, rfl, l, _, by rw [e3], .inl (SqL.of hl3), rfl, _, rfl, ?_⟩
      refine (congrArg (fun b => Q b H3) ?_).mpr (q _ (Ex.refl _))
      rw [free1_isSome, ← pr_len hpp]
      by_cases h1 : vs.length = 1
      · rw [decide_eq_true h1]
        exact decide_eq_true (by rw [h1]; rfl)
      · rw [decide_eq_false h1]
        exact decide_eq_false fun z => h1 (by injection z with z; omega)
    · obtain ⟨l, vs, e3, hl, hpp⟩ := item p hp
      obtain ⟨c1, c2⟩ := free1_some hc
      rw [c2] at hpp
      intro H3 e4 Q q
      have hl3 := (e2.trans e4) _ _ hl
      cases hpp with
      | cons r t =>
      cases t
      rename_i y
      have hy := r.mono (e2.trans e4).t
      refine ⟨_, rfl, _, rfl, l, [y], 0, y, by rw [e3], rfl, SqL.of hl3, rfl, by show 2 ≤ sizeLine; decide, fun q0 hq0 => q _ _ (Ex.new hq0) ⟨q0, x, y, rfl, upd_same, ?_, hy.mono (Ex.new hq0).t⟩⟩
      rw [c1]
      exact hx.mono (e4.trans (Ex.new hq0)).t
    · have hlk2 := e2 _ _ (upd_same (H := H1) (a := d) (o := .frz od (.dT (km kvs))))
      refine ⟨hlk2, _, rfl, ?_⟩
      have eU : Ex H1 (upd H2 d (.dT (km kvs))) := Ex.unlock hD' e2
      have hkeys : kvs.filterMap (fun p => free1 F p.1) = F.filterMap (free1 F) := by
        have e : (kvs.map (·.1)).filterMap (free1 F) = kvs.filterMap (fun p => free1 F p.1) := by
          rw [List.filterMap_map]
          rfl
        rw [← e, hH.keys]
      rw [hkeys] at hL
      refine ⟨_, _, rfl, hL.unlock hlk2, by decide, all_alike alike_P _, sortable_P _, by have := List.length_filterMap_le (free1 F) F; omega, fun v H3 e3 hf h3 => k v H3 ((e1.trans eU).trans e3) (fun a ha => (e1.trans eU).back (hf a ha)) h3⟩

/-! ### is_pair -/
def spPair : Sp := fun vs H Q _ => ∃ v p, vs = [v] ∧ kP.R H v p ∧ Good p.1 ∧ Good p.2 ∧ ∀ H', Ex H H' → Q (.bl true) H'
theorem sc_pair : FnScope ["value"] ["value"] (defScope (top 34)) := ⟨rfl, rfl, rfl, by decide +kernel, rfl, by decide +kernel, by decide +kernel⟩
theorem ok_is_pair (T : Tx K mg C CS CN CB) : Cal P w K mg base CX0 5 "is_pair" spPair := by
  refine T.d_is_pair.cal sc_pair (fun vs H Q E h => ?_) (fun f cdv A outer s H vs Q E hr h => ?_)
  · obtain ⟨u, F, rfl, _⟩ := h
    rfl
  · obtain ⟨v, p, rfl, hv, g1, g2, k⟩ := h
    refine ⟨_, pss_one (ps_ret (pe_and (pe_c (ok_is_list T) hr (by decide) pass0 (pa_cons (pv 0) (pa_cons pe_int (pa_cons pe_int pa_nil))))
      (pe_and (pe_c (ok_is_simplex T) hr (by decide) pass0 (pa_cons (pe_ix ix_tup (pv 0) pe_int (fun _ _ => rfl)) pa_nil)) (pe_one (pe_c (ok_is_simplex T) hr (by decide) pass0 (pa_cons (pe_ix ix_tup (pv 0) pe_int (fun _ _ => rfl)) pa_nil)))))), ?_⟩
    obtain ⟨y, z, hyz, hy, hz⟩ := kP_at hv
    refine ⟨_, rfl, v, 2, 2, rfl, .inl ⟨_, hyz, true, rfl, iteT ?_⟩⟩
    refine p0_of rfl hyz ⟨y, p.1, rfl, hy, g1, fun H1 e1 => ⟨true, rfl, iteT ?_⟩⟩
    exact p1_of rfl (hyz.mono e1.t) ⟨z, p.2, rfl, hz.mono e1.t, g2, fun H2 e2 => k H2 (e1.trans e2)⟩

/-! ### collapsed -/
def StepOk : List Sx → List (Sx × Sx) → Prop
  | _, [] => True
  | F, p :: r => p ∈ freeM F ∧ Clo (without F p) ∧ StepOk (without F p) r
theorem FOk.without {F : List Sx} (ok : FOk F) (p : Sx × Sx) : FOk (without F p) :=
  ⟨ok.nd.sublist List.filter_sublist, fun s hs => ok.a7 s (List.mem_filter.mp hs).1, fun s hs => ok.ne s (List.mem_filter.mp hs).1⟩
theorem mem_holdB {s b x : Sx} (h : x ∈ holdB s b) : x = b ∧ 1 < b.length ∧ ∃ i, i < b.length ∧ b.eraseIdx i = s := by
  obtain ⟨i, hi, e⟩ := List.mem_filterMap.mp h
  split at e
  · rename_i hc
    exact ⟨(Option.some.inj e).symm, hc.1, i, List.mem_range.mp hi, hc.2⟩
  · cases e
theorem mem_freeM {F : List Sx} {p : Sx × Sx} : p ∈ freeM F ↔ p.1 ∈ F ∧ hold F p.1 = [p.2] := by
  unfold freeM sortP
  rw [List.mem_mergeSort, List.mem_filterMap]
  constructor
  · rintro ⟨s, hs, e⟩
    obtain ⟨e1, e2⟩ := free1_some e
    rw [e1]
    exact ⟨hs, e2⟩
  · rintro ⟨h1, h2⟩
    refine ⟨p.1, h1, ?_⟩
    unfold free1
    rw [h2]
theorem freeM_in {F : List Sx} {p : Sx × Sx} (h : p ∈ freeM F) : p.1 ∈ F ∧ p.2 ∈ F ∧ 1 < p.2.length ∧ ∃ i, i < p.2.length ∧ p.2.eraseIdx i = p.1 := by
  obtain ⟨h1, h2⟩ := mem_freeM.mp h
  have h3 : p.2 ∈ hold F p.1 := by rw [h2]; exact List.mem_singleton.mpr rfl
  rw [hold_eq] at h3
  obtain ⟨b, hb, h4⟩ := List.mem_flatMap.mp h3
  obtain ⟨e, h5, h6⟩ := mem_holdB h4
  subst e
  exact ⟨h1, hb, h5, h6⟩
theorem keys_S {H : Hp} : ∀ {F : List Sx} {bs : List Addr}, IsKeys H (km (sd F)) bs → Paired (kS.R H) (bs.map V.ref) F
  | [], _, h => by
    have h : Paired _ [] _ := h
    cases h
    exact .nil
  | s :: F, _, h => by
    have h : Paired _ ((kk s, V.bl true) :: km (sd F)) _ := h
    cases h with
    | cons r t => exact .cons (IsS.of_key r) (keys_S t)
def spCollapsed (C : Addr) : Sp := fun vs H Q _ => ∃ u v F ps, vs = [u, v] ∧ Inst C H u F ∧ FOk F ∧ Clo F ∧ (kTp kP).R H v ps ∧ StepOk F ps ∧ ps.length ≤ F.length ∧ ∀ p H', Ex H H' → Inst C H' (.ref p) (madeM (leftM F ps)) → Q (.ref p) H'
abbrev nColl : List Str := ["shape", "steps", "faces", "index", "pair"]
theorem sc_collapsed : FnScope nColl ["shape", "steps"] (defScope (top 35)) := ⟨rfl, rfl, rfl, by decide +kernel, rfl, by decide +kernel, by decide +kernel⟩
theorem ok_collapsed (T : Tx K mg C CS CN CB) : Cal P w K mg base CX0 8 "collapsed" (spCollapsed C) := by
  refine T.d_collapsed.cal sc_collapsed (fun vs H Q E h => ?_) (fun f cdv A outer s H vs Q E hr h => ?_)
  · obtain ⟨u, v, F, ps, rfl, _⟩ := h
    rfl
  · obtain ⟨u, v, F, ps, rfl, hI, ok, clo, hv, hst, hle, k⟩ := h
    have hu : (A.deeper (envOfC "collapsed" (defScope (top 35)) s.heap.objs.size f cdv)).units + 64 < cLine := hr.units
    have hu2 : (A.deeper (envOfC "collapsed" (defScope (top 35)) s.heap.objs.size f cdv)).units + 65 < cLine := by have := hr.un; omega
    refine ⟨_, pss_cons (ps_expr (pe_c (ok_need T) hr (by decide) passL (pa_cons (pv 0) pa_nil)))
      (pss_cons (ps_if (pt_not (pt_val (pe_c (ok_is_list T) hr (by decide) pass0 (pa_cons (pv 1) (pa_cons pe_int (pa_cons (pe_callB call_len_dT (by rfl) T.n_len PySem.boot_len (pa_cons (pe_fld (pv 0) rfl) pa_nil)) pa_nil)))))) pss_never pss_nil)
      (pss_cons (ps_set (i := 2) sc_collapsed.nd rfl (Or.inl rfl) (pe_callTy (call_copyT hu) (by rfl) T.n_dict (by decide +kernel) (pa_cons (pe_fld (pv 0) rfl) pa_nil)))
      (pss_cons (ps_for PassesOwn.never rfl (pi_enumT (by rfl) T.n_enumerate (pa_cons (pv 1) pa_nil)) (pg_tup rfl (pgs_cons (pg_name (i := 3) sc_collapsed.nd rfl (Or.inl rfl)) (pgs_cons (pg_name (i := 4) sc_collapsed.nd rfl (Or.inl rfl)) pgs_nil)))
        (pss_cons (ps_if (PW.pt (pw_or (pt_not (pt_val (pe_c (ok_is_pair T) hr (by decide) pass0 (pa_cons (pv 4) pa_nil)))) (pw_or1 (pt_cmpR (op_ninL kP (by decide) hu2) (pv 4) (pe_c (ok_free T) hr (by decide) pass0 (pa_cons (pv 2) pa_nil)) rfl)))) pss_never pss_nil)
        (pss_one (ps_set (i := 2) sc_collapsed.nd rfl (Or.inl rfl) (pe_c (ok_without T) hr (by decide) pass0 (pa_cons (pv 2) (pa_cons (pv 4) pa_nil)))))))
      (pss_one (ps_ret (pe_c (ok_made T) hr (by decide) pass0 (pa_cons (pe_callTy (call_list_dT rfl) (by rfl) T.n_list (by decide +kernel) (pa_cons (pv 2) pa_nil)) pa_nil))))))), ?_⟩
    obtain ⟨p, dx, fs, df, rfl, hp, hfl, hF⟩ := id hI
    obtain ⟨a, xs, rfl, ha, hpr⟩ := hv
    have hlen := pr_len hpr
    have hFl := ok.len
    refine ⟨_, rfl, _, rfl, .inl ⟨F, hI, ?_⟩⟩
    refine ⟨_, rfl, _, rfl, p, C, dx, fs, _, rfl, hp, T.cl, T.nF, hfl, df, _, rfl, hF, .ref a, 0, _, rfl, .inl ⟨xs, ⟨a, rfl, ha⟩, true, ?_, ?_⟩⟩
    · rw [km_len, sd_len, decide_eq_true (by omega), decide_eq_true (by omega)]
      rfl
    refine iteF ⟨_, rfl, p, C, dx, fs, _, rfl, hp, T.cl, T.nF, hfl, df, sd F, rfl, .inl hF, sd_nodup ok.nd, sd_all ok.a7, fun d hd => ?_⟩
    have e0 : Ex H (upd H d (.dT (km (sd F)))) := Ex.new hd
    refine ⟨_, rfl, a, xs, rfl, SqT.rd (e0.t.rd ha), ?_⟩
    refine for_enumT (fun i σ H' => Ex H H' ∧ ∃ d o3 o4 F', σ = [some (.ref p), some (.ref a), some (.ref d), o3, o4] ∧ DtAt H' d (sd F') ∧ FOk F' ∧ Clo F' ∧ StepOk F' (ps.drop i) ∧ leftM F' (ps.drop i) = leftM F ps)
      ⟨e0, d, none, none, F, rfl, upd_same, ok, clo, hst, rfl⟩ (fun i σ H' q => SqT.rd (q.1.t.rd ha)) ?_ ?_
    · rintro i x Ta σ H' hi ⟨e, d', o3, o4, F', rfl, hD, ok', clo', hst', hlf⟩ hT
      obtain ⟨b, hbi, hR⟩ := pr_get hpr hi
      rw [drop_cons hbi] at hst' hlf
      obtain ⟨hfr, hcl, hst'⟩ := hst'
      have hin := freeM_in hfr
      have eT : Ex H' (upd H' Ta (.tup [.int (i : Nat), x])) := Ex.new hT
      have hRT := kP.mono (e.trans eT).t hR
      refine ⟨Ta, _, rfl, SqT.of upd_same, rfl, _, _, rfl, _, _, rfl, rfl, _, rfl, x, b, rfl, hRT, a7_good (ok'.a7 _ hin.1) (ok'.ne _ hin.1), a7_good (ok'.a7 _ hin.2.1) (ok'.ne _ hin.2.1), fun H2 e2 => ⟨true, rfl, iteF ?_⟩⟩
      have hD2 : DtAt H2 d' (sd F') := (eT.trans e2) _ _ hD
      refine ⟨_, rfl, _, rfl, d', F', rfl, hD2, ok', clo', fun v3 H3 e3 _ h3 => ?_⟩
      have hR3 := kP.mono (e2.trans e3).t hRT
      refine ⟨b, freeM F', hR3, h3, _, rfl, ?_⟩
      refine if_f (by simp [hfr]) ?_
      have hD3 : DtAt H3 d' (sd F') := e3 _ _ hD2
      refine ⟨_, rfl, _, rfl, d', x, F', b, rfl, hD3, ok'.nd, by have := ok'.len; omega, hR3, fun d4 H4 e4 _ hD4 => ?_⟩
      exact ⟨(((e.trans eT).trans e2).trans e3).trans e4, d4, _, _, without F' b, rfl, hD4, ok'.without b, hcl, hst', hlf⟩
    · rintro σ H' ⟨e, d', o3, o4, F', rfl, hD, ok', clo', hst', hlf⟩
      rw [hlen, List.drop_length] at hlf
      have hlf : F' = leftM F ps := hlf
      subst hlf
      refine ⟨_, rfl, d', _, rfl, .inl hD, fun l bs hl hk => ?_⟩
      have el : Ex H' (upd H' l (.lst (bs.map V.ref))) := Ex.new hl
      refine ⟨.ref l, leftM F ps, rfl, .inl ⟨l, _, rfl, upd_same, pr_kmono kS el.t (keys_S hk)⟩, ok'.a7, fun p2 H2 e2 hI2 => k p2 H2 ((e.trans el).trans e2) hI2⟩
end
end Sh
set_option Elab.async false
set_option linter.all false
set_option maxRecDepth 100000
set_option maxHeartbeats 4000000
namespace Sh
open PySem PySem.Spec PyProof.Rows L2 RZ
section
variable {P : Program} {w : World} {K : PySem.W.Frag} {mg : Str → Option Value} {base : Heap} {C CS CN CB : Addr}
/-! ### collapse_fully, left_by -/
theorem pr_last {α β : Type} {F : α → β → Prop} {vs : List α} {l : List β} {b : β} (h : Paired F vs (l ++ [b])) : ∃ us x, vs = us ++ [x] ∧ F x b := by
  have hl := pr_len h
  rw [List.length_append] at hl
  have hl : vs.length = l.length + 1 := hl
  obtain ⟨x, hx, hF⟩ := pr_get' (i := l.length) (y := b) h (by simp)
  refine ⟨vs.take l.length, x, ?_, hF⟩
  obtain ⟨hlt, e⟩ := List.getElem?_eq_some_iff.mp hx
  conv => lhs; rw [← List.take_append_drop l.length vs]
  rw [List.drop_eq_getElem_cons hlt, e, List.drop_eq_nil_of_le (by omega)]
theorem collF_len : ∀ (n : Nat) (F : List Sx), (collF n F).length ≤ n
  | 0, _ => Nat.le_refl _
  | n + 1, F => by
    unfold collF
    split
    · exact Nat.zero_le _
    · exact Nat.succ_le_succ (collF_len n _)
theorem without_lt {F : List Sx} {p : Sx × Sx} (h : p.1 ∈ F) : (without F p).length < F.length :=
  List.length_filter_lt_length_iff_exists.mpr ⟨p.1, h, by simp⟩
def spColl (C : Addr) : Sp := fun vs H Q _ => ∃ u F, vs = [u] ∧ Inst C H u F ∧ FOk F ∧ Clo F ∧ StepOk F (coll F) ∧ ∀ v H', Ex H H' → TpP kP H' v (coll F) → Q v H'
abbrev nCf : List Str := ["shape", "faces", "found", "some"]
theorem sc_coll : FnScope nCf ["shape"] (defScope (top 36)) := ⟨rfl, rfl, rfl, by decide +kernel, rfl, by decide +kernel, by decide +kernel⟩
theorem ok_coll (T : Tx K mg C CS CN CB) : Cal P w K mg base CX0 3 "collapse_fully" (spColl C) := by
  refine T.d_collapse_fully.cal sc_coll (fun vs H Q E h => ?_) (fun f cdv A outer s H vs Q E hr h => ?_)
  · obtain ⟨u, F, rfl, _⟩ := h
    rfl
  · obtain ⟨u, F, rfl, hI, ok, clo, hst, k⟩ := h
    have hu : (A.deeper (envOfC "collapse_fully" (defScope (top 36)) s.heap.objs.size f cdv)).units + 64 < cLine := hr.units
    refine ⟨_, pss_cons (ps_expr (pe_c (ok_need T) hr (by decide) passL (pa_cons (pv 0) pa_nil)))
      (pss_cons (ps_par (i := 1) (j := 2) rfl sc_coll.nd rfl rfl (by decide) rfl rfl (pa_cons (pe_callTy (call_copyT hu) (by rfl) T.n_dict (by decide +kernel) (pa_cons (pe_fld (pv 0) rfl) pa_nil)) (pa_cons (pe_lst pa_nil) pa_nil)) rfl)
      (pss_cons (ps_set (i := 3) sc_coll.nd rfl (Or.inl rfl) (pe_c (ok_free T) hr (by decide) pass0 (pa_cons (pv 1) pa_nil)))
      (pss_cons (ps_while PassesOwn.never (pt_cmpR (op_neL kP (by decide) hu) (pv 3) (pe_lst pa_nil) (nomark _))
        (pss_cons (ps_expr (pe_bm PySem.F.plainAttrs_list PySem.F.slot_list_append PySem.F.type_list_append mt_append (pv 2) (pa_cons (pe_ix ix_list (pv 3) (pe_un un_neg pe_int) (fun _ _ => rfl)) pa_nil)))
        (pss_cons (ps_set (i := 1) sc_coll.nd rfl (Or.inl rfl) (pe_c (ok_without T) hr (by decide) pass0 (pa_cons (pv 1) (pa_cons (pe_ix ix_list (pv 3) (pe_un un_neg pe_int) (fun _ _ => rfl)) pa_nil))))
        (pss_one (ps_set (i := 3) sc_coll.nd rfl (Or.inl rfl) (pe_c (ok_free T) hr (by decide) pass0 (pa_cons (pv 1) pa_nil)))))))
      (pss_one (ps_ret (pe_callTy (call_tupP kP) (by rfl) T.n_tuple (by decide +kernel) (pa_cons (pv 2) pa_nil))))))), ?_⟩
    obtain ⟨p, dx, fs, df, rfl, hp, hfl, hF⟩ := id hI
    have hFl := ok.len
    refine ⟨_, rfl, _, rfl, .inl ⟨F, hI, ?_⟩⟩
    refine ⟨_, rfl, p, C, dx, fs, _, rfl, hp, T.cl, T.nF, hfl, df, sd F, rfl, .inl hF, sd_nodup ok.nd, sd_all ok.a7, fun d hd => ?_⟩
    have e0 : Ex H (upd H d (.dT (km (sd F)))) := Ex.new hd
    refine ⟨Nat.zero_le _, fun l hl => ⟨_, _, rfl, ?_⟩⟩
    have e1 : Ex (upd H d (.dT (km (sd F)))) (upd (upd H d (.dT (km (sd F)))) l (.lst [])) := Ex.new hl
    have hl0 := e0.back hl
    have hd1 : DtAt (upd (upd H d (.dT (km (sd F)))) l (.lst [])) d (sd F) := e1 _ _ upd_same
    refine ⟨_, rfl, d, F, rfl, hd1, ok, clo, fun v2 H2 e2 hf2 h2 => ?_⟩
    have hl2 := e2 _ _ (upd_same (H := upd H d (.dT (km (sd F)))) (a := l) (o := .lst []))
    refine ⟨fun m σ H' => Ex H H' ∧ ∃ d v3 F' acc ws, σ = [some (.ref p), some (.ref d), some (.ref l), some v3] ∧ DtAt H' d (sd F') ∧ FOk F' ∧ Clo F' ∧ H' l = some (.lst ws) ∧ Paired (kP.R H') ws acc ∧ LsD kP H' v3 (freeM F') ∧ v3 ≠ .ref l ∧ F'.length < m ∧ acc ++ collF m F' = coll F ∧ StepOk F' (collF m F'),
      ⟨F.length + 1, (e0.trans e1).trans e2, d, v2, F, [], [], rfl, e2 _ _ hd1, ok, clo, hl2, .nil, h2, (fun z => by have := hf2 l z; rw [upd_same] at this; cases this), Nat.lt_succ_self _, rfl, hst⟩, ?_⟩
    rintro m σ H' ⟨e, d', v3, F', acc, ws, rfl, hD, ok', clo', hlw, hpw, h3, hnl, hm, hac, hst'⟩
    refine ⟨_, rfl, Nat.zero_le _, fun q hq => ?_⟩
    have eq : Ex H' (upd H' q (.lst [])) := Ex.new hq
    refine ⟨freeM F', [], h3.ex eq, ⟨q, [], rfl, upd_same, .nil⟩, _, rfl, ?_⟩
    obtain ⟨m, rfl⟩ : ∃ m', m = m' + 1 := by
      cases m with
      | zero => omega
      | succ m => exact ⟨m, rfl⟩
    have hcl := collF_len (F.length + 1) F
    have hacl : acc.length ≤ 129 := by
      have : (acc ++ collF (m + 1) F').length ≤ F.length + 1 := by rw [hac]; exact hcl
      rw [List.length_append] at this
      omega
    by_cases hfe : freeM F' = []
    · refine if_f (by simp [hfe]) ?_
      have : collF (m + 1) F' = [] := by
        unfold collF
        rw [hfe]
        rfl
      rw [this, List.append_nil] at hac
      subst hac
      exact ⟨_, rfl, _, _, rfl, ⟨l, ws, rfl, eq _ _ hlw, pr_kmono kP eq.t hpw⟩, fun v4 H4 e4 h4 => k v4 H4 ((e.trans eq).trans e4) h4⟩
    refine if_t (by simp [hfe]) ?_
    refine ⟨_, fun σ' H' h => ⟨m, Nat.lt_succ_self m, h⟩, ?_⟩
    obtain ⟨init, b, hib⟩ : ∃ init b, freeM F' = init ++ [b] := ⟨_, _, (List.dropLast_concat_getLast hfe).symm⟩
    have hco : collF (m + 1) F' = b :: collF m (without F' b) := by
      conv => lhs; unfold collF
      rw [hib, List.getLast?_concat]
    rw [hco] at hac hst'
    obtain ⟨hfr, hcl', hst'⟩ := hst'
    have h3' := h3.ex eq
    rw [hib] at h3'
    obtain ⟨a3, us3, rfl, ha3, hp3⟩ := h3'
    obtain ⟨us, x, rfl, hx⟩ := pr_last hp3
    have hlw' := eq _ _ hlw
    have hwl := pr_len hpw
    refine ⟨_, rfl, .inl ⟨rfl, _, SqL.of hlw'⟩, _, rfl, _, rfl, a3, _, -1, x, rfl, rfl, SqL.of ha3, atI_last _ _, l, _, _, rfl, rfl, hlw', sz5l (by omega), ?_⟩
    have hla3 : a3 ≠ l := fun z => hnl (by rw [z])
    have et := eq.t.trans (TEx.wrL hlw' (o := .lst (ws ++ [x])))
    have hl00 : H l = none := hl0
    have e4 : Ex H (upd (upd H' q (.lst [])) l (.lst (ws ++ [x]))) := Ex.mut (e.trans eq) hl00
    have ha4 : upd (upd H' q (.lst [])) l (.lst (ws ++ [x])) a3 = some (.lst (us ++ [x])) := (upd_ne hla3).trans ha3
    have hdl : d' ≠ l := fun z => by
      have h5 := eq _ _ hD
      rw [z, hlw'] at h5
      cases h5
    have hD4 : DtAt (upd (upd H' q (.lst [])) l (.lst (ws ++ [x]))) d' (sd F') := (upd_ne hdl).trans (eq _ _ hD)
    have hx4 := kP.mono (TEx.wrL hlw' (o := .lst (ws ++ [x]))) hx
    refine ⟨_, rfl, _, rfl, _, rfl, a3, _, -1, x, rfl, rfl, SqL.of ha4, atI_last _ _, d', x, F', b, rfl, hD4, ok'.nd, by have := ok'.len; omega, hx4, fun d5 H5 e5 _ hD5 => ?_⟩
    have hin := freeM_in hfr
    have hl5 := e5 _ _ (upd_same (H := upd H' q (.lst [])) (a := l) (o := .lst (ws ++ [x])))
    refine ⟨_, rfl, d5, without F' b, rfl, hD5, ok'.without b, hcl', fun v6 H6 e6 hf6 h6 => ?_⟩
    refine ⟨(e4.trans e5).trans e6, d5, v6, without F' b, acc ++ [b], ws ++ [x], rfl, e6 _ _ hD5, ok'.without b, hcl', e6 _ _ hl5, pr_snoc (pr_kmono kP (et.trans (e5.trans e6).t) hpw) (kP.mono (e5.trans e6).t hx4), h6, (fun z => by have := hf6 l z; rw [hl5] at this; cases this), ?_, ?_, hst'⟩
    · have := without_lt hin.1
      omega
    · rw [← hac, List.append_assoc]
      rfl
def spLeft (C : Addr) : Sp := fun vs H Q _ => ∃ u F, vs = [u] ∧ Inst C H u F ∧ FOk F ∧ Clo F ∧ StepOk F (coll F) ∧ (coll F).length ≤ F.length ∧ ∀ p H', Ex H H' → Inst C H' (.ref p) (madeM (leftM F (coll F))) → Q (.ref p) H'
theorem sc_left : FnScope ["shape"] ["shape"] (defScope (top 37)) := ⟨rfl, rfl, rfl, by decide +kernel, rfl, by decide +kernel, by decide +kernel⟩
theorem ok_left (T : Tx K mg C CS CN CB) : Cal P w K mg base CX0 9 "left_by" (spLeft C) := by
  refine T.d_left_by.cal sc_left (fun vs H Q E h => ?_) (fun f cdv A outer s H vs Q E hr h => ?_)
  · obtain ⟨u, F, rfl, _⟩ := h
    rfl
  · obtain ⟨u, F, rfl, hI, ok, clo, hst, hle, k⟩ := h
    refine ⟨_, pss_one (ps_ret (pe_c (ok_collapsed T) hr (by decide) pass0 (pa_cons (pv 0) (pa_cons (pe_c (ok_coll T) hr (by decide) pass0 (pa_cons (pv 0) pa_nil)) pa_nil)))), ?_⟩
    refine ⟨_, rfl, _, rfl, u, F, rfl, hI, ok, clo, hst, fun v H1 e1 hv => ⟨u, v, F, coll F, rfl, hI.mono e1.n, ok, clo, hv.tp, hst, hle, fun p H2 e2 hI2 => k p H2 (e1.trans e2) hI2⟩⟩
end
end Sh
set_option Elab.async false
set_option linter.all false
set_option maxRecDepth 100000
set_option maxHeartbeats 4000000
namespace Sh
open PySem PySem.Spec PyProof.Rows L2 RZ
section
variable {P : Program} {w : World} {K : PySem.W.Frag} {mg : Str → Option Value} {base : Heap} {C CS CN CB : Addr}
/-! ### the row that the law draws from -/
def ScrOk (K : PySem.W.Frag) (H : Hp) (r a : Addr) (ns : List Int) : Prop := ∀ H' : Hp, (∀ b o, b ≠ r → H b = some o → H' b = some o) → SqL K H' a (ns.map V.int)
structure Scr where
  a : Addr
  ns : List Int
def Row (K : PySem.W.Frag) (S : Scr) (H : Hp) (r : Addr) : Prop := ∃ x y z, H r = some (.lst [.ref S.a, .int x, .int y, .int z]) ∧ ScrOk K H r S.a S.ns ∧ S.ns.length ≤ 63 ∧ 0 ≤ x ∧ 0 ≤ y ∧ y < 2147483647
structure Ro (K : PySem.W.Frag) (S : Scr) (r : Addr) (H H' : Hp) : Prop where
  f : ∀ b o, b ≠ r → H b = some o → H' b = some o
  r0 : Row K S H r
  r : Row K S H' r
theorem Ro.refl {K : PySem.W.Frag} {S : Scr} {r : Addr} {H : Hp} (h : Row K S H r) : Ro K S r H H := ⟨fun _ _ _ h => h, h, h⟩
theorem Ro.trans {K : PySem.W.Frag} {S : Scr} {r : Addr} {H H1 H2 : Hp} (a : Ro K S r H H1) (b : Ro K S r H1 H2) : Ro K S r H H2 := ⟨fun x o n h => b.f x o n (a.f x o n h), a.r0, b.r⟩
theorem Row.ex {K : PySem.W.Frag} {S : Scr} {r : Addr} {H H' : Hp} (h : Row K S H r) (e : Ex H H') : Row K S H' r := by
  obtain ⟨x, y, z, hr, hs, h1, h2, h3, h4⟩ := h
  exact ⟨x, y, z, e _ _ hr, fun H2 f => hs H2 fun b o n hb => f b o n (e _ _ hb), h1, h2, h3, h4⟩
theorem Ex.ro {K : PySem.W.Frag} {S : Scr} {r : Addr} {H H' : Hp} (e : Ex H H') (h : Row K S H r) : Ro K S r H H' := ⟨fun b o _ hb => e b o hb, h, h.ex e⟩
theorem Ro.ex {K : PySem.W.Frag} {S : Scr} {r : Addr} {H H1 H2 : Hp} (a : Ro K S r H H1) (e : Ex H1 H2) : Ro K S r H H2 := a.trans (e.ro a.r)
theorem Ro.n {K : PySem.W.Frag} {S : Scr} {r : Addr} {H H' : Hp} (h : Ro K S r H H') : NEx H H' := fun b o n hb => by
  obtain ⟨x, y, z, hr, _⟩ := h.r0
  refine h.f b o (fun q => ?_) hb
  rw [q, hr] at hb
  exact n _ (Option.some.inj hb).symm
theorem Row.ne {K : PySem.W.Frag} {S : Scr} {r b : Addr} {H : Hp} (h : Row K S H r) (hb : H b = none) : b ≠ r := fun q => by
  obtain ⟨x, y, z, hr, _⟩ := h
  rw [q, hr] at hb
  cases hb
/-- what H' does not know, H does not know -/
theorem Ro.back {K : PySem.W.Frag} {S : Scr} {r b : Addr} {H H' : Hp} (h : Ro K S r H H') (hb : H' b = none) : H b = none := by
  cases q : H b with
  | none => rfl
  | some o =>
    have := h.f b o (h.r.ne hb) q
    rw [hb] at this
    cases this
/-- an object that H does not know may change -/
theorem Ro.mut {K : PySem.W.Frag} {S : Scr} {r p : Addr} {H H' : Hp} {o : HO} (h : Ro K S r H H') (hp : H p = none) : Ro K S r H (upd H' p o) := by
  have hpr := h.r0.ne hp
  obtain ⟨x, y, z, hr, hs, h1, h2, h3, h4⟩ := h.r
  obtain ⟨_, _, _, _, hs0, _⟩ := h.r0
  refine ⟨fun b u n hb => ?_, h.r0, x, y, z, ?_, fun H2 f => hs0 H2 fun b u n hb => f b u n ?_, h1, h2, h3, h4⟩
  · rw [upd_ne (ne_of_none hb hp)]
    exact h.f b u n hb
  · rw [upd_ne (Ne.symm hpr)]
    exact hr
  · rw [upd_ne (ne_of_none hb hp)]
    exact h.f b u n hb
/-- the row written anew -/
theorem Ro.put {K : PySem.W.Frag} {S : Scr} {r : Addr} {H : Hp} {x y z : Int} (hr : Row K S H r) (h2 : 0 ≤ x) (h3 : 0 ≤ y) (h4 : y < 2147483647) : Ro K S r H (upd H r (.lst [.ref S.a, .int x, .int y, .int z])) := by
  obtain ⟨_, _, _, _, hs, h1, _⟩ := id hr
  exact ⟨fun b o n hb => by rw [upd_ne n]; exact hb, hr, x, y, z, upd_same, fun H2 f => hs H2 fun b o n hb => f b o n (by rw [upd_ne n]; exact hb), h1, h2, h3, h4⟩
theorem rix {K : PySem.W.Frag} {σ : L2.St} {H : Hp} {Q : VK} {i : Nat} {r : Addr} {xs : List V} {j : Int} {v : V} (h : σ[i]? = some (some (.ref r))) (hr : H r = some (.lst xs)) (e : atI xs j = some v) (q : Q v H) : tOp (rIxL K) (tVar i) (tC (.int j)) σ H Q :=
  ⟨_, h, r, xs, j, v, rfl, rfl, SqL.of hr, e, q⟩
def spTaken (K : PySem.W.Frag) : Sp := fun vs H Q _ => ∃ (S : Scr) (r : Addr) (m : Nat), vs = [.ref r, .int (m : Int)] ∧ 0 < m ∧ m ≤ 1000000 ∧ Row K S H r ∧ ∀ (n : Nat) H', n < m → Ro K S r H H' → Q (.int (n : Int)) H'
theorem sc_taken : FnScope ["_law_row", "_law_many", "_law_found", "_law_cell"] ["_law_row", "_law_many"] (defScope (top 39)) := ⟨rfl, rfl, rfl, by decide +kernel, rfl, by decide +kernel, by decide +kernel⟩
theorem emod_nat {i : Int} {m : Nat} (h : 0 < m) : ∃ n : Nat, n < m ∧ i % (m : Int) = (n : Int) := by
  have h1 := Int.emod_nonneg i (show (m : Int) ≠ 0 by omega)
  have h2 := Int.emod_lt_of_pos i (show (0 : Int) < m by omega)
  exact ⟨(i % (m : Int)).toNat, by omega, by omega⟩
theorem ok_taken (T : Tx K mg C CS CN CB) : Cal P w K mg base CX0 1 "_law_taken" (spTaken K) := by
  refine T.d_taken.cal sc_taken (fun vs H Q E h => ?_) (fun f cdv A outer s H vs Q E hr h => ?_)
  · obtain ⟨S, u, F, rfl, _⟩ := h
    rfl
  · obtain ⟨S, r, m, rfl, hm0, hm, hR, k⟩ := h
    refine ⟨_, pss_cons (ps_if (pt_cmpR op_gt (pe_ix ix_list (pv 0) pe_int (fun _ _ => rfl)) pe_int (nomark _))
        (pss_cons (ps_set (i := 2) sc_taken.nd rfl (Or.inl rfl) (pe_op op_mod (pe_callTy call_int1 (by rfl) T.n_int (by decide +kernel) (pa_cons (pe_ix ix_list (pv 0) pe_int (fun _ _ => rfl)) pa_nil)) (pv 1)))
        (pss_cons (ps_asg (pe_op op_fdiv (pe_ix ix_list (pv 0) pe_int (fun _ _ => rfl)) (pv 1)) (pg_sub (pv 0) pe_int set_list)) (pss_one (ps_ret (pv 2))))) pss_nil)
      (pss_cons (ps_asg (pe_op op_add (pe_ix ix_list (pv 0) pe_int (fun _ _ => rfl)) pe_int) (pg_sub (pv 0) pe_int set_list))
      (pss_cons (ps_if (pt_cmpR op_gt (pe_ix ix_list (pv 0) pe_int (fun _ _ => rfl)) (pe_callB call_len_seq (by rfl) T.n_len PySem.boot_len (pa_cons (pe_ix ix_list (pv 0) pe_int (fun _ _ => rfl)) pa_nil)) (nomark _))
        (pss_cons (ps_asg (pe_op op_mod (pe_callTy call_int1 (by rfl) T.n_int (by decide +kernel) (pa_cons (pe_op op_add (pe_op op_mul (pe_ix ix_list (pv 0) pe_int (fun _ _ => rfl)) pe_int) pe_int) pa_nil)) pe_int) (pg_sub (pv 0) pe_int set_list))
        (pss_one (ps_ret (pe_op op_mod (pe_callTy call_int1 (by rfl) T.n_int (by decide +kernel) (pa_cons (pe_op op_fdiv (pe_ix ix_list (pv 0) pe_int (fun _ _ => rfl)) pe_int) pa_nil)) (pv 1))))) pss_nil)
      (pss_cons (ps_set (i := 3) sc_taken.nd rfl (Or.inl rfl) (pe_ix ix_list (pe_ix ix_list (pv 0) pe_int (fun _ _ => rfl)) (pe_op op_sub (pe_ix ix_list (pv 0) pe_int (fun _ _ => rfl)) pe_int) (fun _ _ => rfl)))
      (pss_cons (ps_asg (pe_op op_mod (pe_callTy call_int1 (by rfl) T.n_int (by decide +kernel) (pa_cons (pe_op op_add (pe_op op_add (pe_op op_mul (pe_ix ix_list (pv 0) pe_int (fun _ _ => rfl)) pe_int) (pv 3)) pe_int) pa_nil)) pe_int) (pg_sub (pv 0) pe_int set_list))
      (pss_cons (ps_if (pt_cmpR op_ge (pv 3) (pe_op op_pow pe_int pe_int) (nomark _)) (pss_one (ps_asg (pe_op op_fdiv (pv 3) (pv 1)) (pg_sub (pv 0) pe_int set_list))) pss_nil)
      (pss_one (ps_ret (pe_op op_mod (pe_callTy call_int1 (by rfl) T.n_int (by decide +kernel) (pa_cons (pv 3) pa_nil)) (pv 1))))))))), ?_⟩
    obtain ⟨x, y, z, hr0, hs, hn, hx, hy, hy2⟩ := id hR
    obtain ⟨a, ns⟩ := S
    refine rix rfl hr0 rfl ⟨_, _, rfl, rfl, _, rfl, ?_⟩
    by_cases hz : z > 0
    · rw [decide_eq_true hz]
      refine iteT (rix rfl hr0 rfl (.inl ⟨z, rfl, _, rfl, _, _, rfl, rfl, (by omega : (0 : Int) < m), ?_⟩))
      obtain ⟨n, hn1, hn2⟩ := emod_nat (i := z) hm0
      refine rix rfl hr0 rfl ⟨_, rfl, _, _, rfl, rfl, ⟨(by omega : (0 : Int) < m), (by omega : (m : Int) < 1073741824)⟩, _, rfl, r, _, 3, 3, rfl, rfl, hr0, rfl, _, rfl, ?_⟩
      show Q (.int (z % (m : Int))) _
      rw [hn2]
      exact k n _ hn1 (Ro.put hR hx hy hy2)
    rw [decide_eq_false hz]
    refine iteF (rix rfl hr0 rfl ⟨_, _, rfl, rfl, _, rfl, r, _, 1, 1, rfl, rfl, hr0, rfl, ?_⟩)
    have R1 : Ro K ⟨a, ns⟩ r H (upd H r (.lst [.ref a, .int (x + 1), .int y, .int z])) := Ro.put hR (by omega) hy hy2
    have hr1 : upd H r (.lst [.ref a, .int (x + 1), .int y, .int z]) r = some (.lst [.ref a, .int (x + 1), .int y, .int z]) := upd_same
    show tSeq _ _ _ _ (upd H r (.lst [.ref a, .int (x + 1), .int y, .int z]))
    generalize upd H r (.lst [.ref a, .int (x + 1), .int y, .int z]) = H1 at R1 hr1 ⊢
    have hs1 : ScrOk K H1 r a ns := fun H2 f => hs H2 fun b o n hb => f b o n (R1.f b o n hb)
    have hsq : SqL K H1 a (ns.map V.int) := hs1 H1 fun _ _ _ h => h
    have hnl : (ns.map V.int).length = ns.length := List.length_map _
    refine rix rfl hr1 rfl (rix rfl hr1 rfl ⟨a, _, rfl, .inl hsq, _, _, rfl, rfl, _, rfl, ?_⟩)
    have m0 : (0 : Int) < 2147483647 := by decide
    by_cases hl : x + 1 > ((ns.map V.int).length : Int)
    · rw [decide_eq_true hl]
      refine iteT (rix rfl hr1 rfl ⟨_, _, rfl, rfl, .inr ⟨by decide, by decide⟩, _, _, rfl, rfl, .inl ⟨_, rfl, _, _, rfl, rfl, m0, _, rfl, r, _, 2, 2, rfl, rfl, hr1, rfl, ?_⟩⟩)
      have y1 := Int.emod_nonneg (y * 48271 + 11) (show (2147483647 : Int) ≠ 0 by decide)
      have y2 := Int.emod_lt_of_pos (y * 48271 + 11) m0
      refine rix rfl upd_same rfl ⟨_, _, rfl, rfl, ⟨by decide, by decide⟩, .inl ⟨_, rfl, _, rfl, _, _, rfl, rfl, (by omega : (0 : Int) < m), ?_⟩⟩
      obtain ⟨n, hn1, hn2⟩ := emod_nat (i := (y * 48271 + 11) % 2147483647 / 7) hm0
      show Q (.int ((y * 48271 + 11) % 2147483647 / 7 % (m : Int))) _
      rw [hn2]
      exact k n _ hn1 (R1.trans (Ro.put R1.r (by omega) y1 y2))
    rw [decide_eq_false hl]
    have hxl : x.toNat < ns.length := by omega
    have hc : ns[x.toNat]? = some ns[x.toNat] := List.getElem?_eq_getElem hxl
    generalize ns[x.toNat] = c at hc
    refine iteF (rix rfl hr1 rfl (rix rfl hr1 rfl ⟨_, _, rfl, rfl, a, _, x + 1 - 1, .int c, rfl, rfl, hsq, ?_, ?_⟩))
    · have e : x + 1 - 1 = ((x.toNat : Nat) : Int) := by omega
      rw [e]
      exact atI_nat (by rw [List.getElem?_map, hc]; rfl)
    refine rix rfl hr1 rfl ⟨_, _, rfl, rfl, .inr ⟨by decide, by decide⟩, _, rfl, _, _, rfl, rfl, _, _, rfl, rfl, .inl ⟨_, rfl, _, _, rfl, rfl, m0, _, rfl, r, _, 2, 2, rfl, rfl, hr1, rfl, ?_⟩⟩
    have y1 := Int.emod_nonneg (y * 48271 + c + 11) (show (2147483647 : Int) ≠ 0 by decide)
    have y2 := Int.emod_lt_of_pos (y * 48271 + c + 11) m0
    refine ⟨_, rfl, _, _, rfl, rfl, ⟨by decide, by decide, by decide⟩, _, _, rfl, rfl, _, rfl, ?_⟩
    obtain ⟨n, hn1, hn2⟩ := emod_nat (i := c) hm0
    have R2 : Ro K ⟨a, ns⟩ r H1 (upd H1 r (.lst [.ref a, .int (x + 1), .int ((y * 48271 + c + 11) % 2147483647), .int z])) := Ro.put R1.r (by omega) y1 y2
    refine ite2 (fun _ => ?_) (fun _ => ?_)
    · refine ⟨_, rfl, _, rfl, _, _, rfl, rfl, ⟨(by omega : (0 : Int) < m), (by omega : (m : Int) < 1073741824)⟩, _, rfl, r, _, 3, 3, rfl, rfl, upd_same, rfl, ?_⟩
      refine ⟨_, rfl, .inl ⟨c, rfl, _, rfl, _, _, rfl, rfl, (by omega : (0 : Int) < m), ?_⟩⟩
      show Q (.int (c % (m : Int))) _
      rw [hn2]
      refine k n _ hn1 ((R1.trans R2).trans ?_)
      exact Ro.put R2.r (by omega) y1 y2
    · refine ⟨_, rfl, .inl ⟨c, rfl, _, rfl, _, _, rfl, rfl, (by omega : (0 : Int) < m), ?_⟩⟩
      show Q (.int (c % (m : Int))) _
      rw [hn2]
      exact k n _ hn1 (R1.trans R2)
end
end Sh
set_option Elab.async false
set_option linter.all false
set_option maxRecDepth 100000
set_option maxHeartbeats 4000000
namespace Sh
open PySem PySem.Spec PyProof.Rows L2 RZ
section
variable {P : Program} {w : World} {K : PySem.W.Frag} {mg : Str → Option Value} {base : Heap} {C CS CN CB : Addr}
/-! ### pick -/
def spPick (K : PySem.W.Frag) : Sp := fun vs H Q _ => ∃ (S : Scr) (r l : Addr) (xs : List V), vs = [.ref r, .ref l] ∧ Row K S H r ∧ H l = some (.lst xs) ∧ l ≠ r ∧ xs ≠ [] ∧ xs.length ≤ 1000000 ∧ ∀ (i : Nat) (v : V) H', xs[i]? = some v → Ro K S r H H' → Q v H'
theorem sc_pick : FnScope ["_law_row", "_law_things"] ["_law_row", "_law_things"] (defScope (top 40)) := ⟨rfl, rfl, rfl, by decide +kernel, rfl, by decide +kernel, by decide +kernel⟩
theorem ok_pick (T : Tx K mg C CS CN CB) : Cal P w K mg base CX0 2 "_law_pick" (spPick K) := by
  refine T.d_pick.cal sc_pick (fun vs H Q E h => ?_) (fun f cdv A outer s H vs Q E hr h => ?_)
  · obtain ⟨S, u, F, xs, rfl, _⟩ := h
    rfl
  · obtain ⟨S, r, l, xs, rfl, hR, hl, hlr, hne, hz, k⟩ := h
    refine ⟨_, pss_one (ps_ret (pe_ix ix_list (pv 1) (pe_c (ok_taken T) hr (by decide) pass0 (pa_cons (pv 0) (pa_cons (pe_callB call_len_seq (by rfl) T.n_len PySem.boot_len (pa_cons (pv 1) pa_nil)) pa_nil))) (fun _ _ => rfl))), ?_⟩
    refine ⟨_, rfl, _, rfl, _, rfl, l, xs, rfl, .inl (SqL.of hl), S, r, xs.length, rfl, List.length_pos_iff.mpr hne, hz, hR, fun n H' hn hRo => ?_⟩
    exact ⟨l, xs, n, xs[n], rfl, rfl, SqL.of (hRo.f _ _ hlr hl), atI_nat (List.getElem?_eq_getElem hn), k n _ H' (List.getElem?_eq_getElem hn) hRo⟩

/-! ### alike: both the same -/
theorem kitAny2 {K : PySem.W.Frag} {t a b : String} {x y : Bool} (h1 : kitB t a = some x) (h2 : kitB t b = some y) : PySem.W.kitAny K (.type t) [.type a, .type b] = some (x || y) := by
  have e1 := kit_ty (K := K) h1
  have e2 := kit_ty (K := K) h2
  unfold PySem.W.kitAny
  rw [e1]
  cases x with
  | true => rfl
  | false =>
    dsimp only
    unfold PySem.W.kitAny
    rw [e2]
    cases y <;> rfl
abbrev nAlike : List Str := ["_law_found", "_law_due", "_law_k"]
theorem sc_alike : FnScope nAlike ["_law_found", "_law_due"] (defScope (top 41)) := ⟨rfl, rfl, rfl, by decide +kernel, rfl, by decide +kernel, by decide +kernel⟩
def spAlike0 : Sp := fun vs H Q _ => ∃ v, vs = [v, v] ∧ ((∃ b, v = .bl b) ∨ (∃ i, v = .int i) ∨ ∃ z, v = .str z) ∧ ∀ H', Ex H H' → Q (.bl true) H'
theorem body_alike0 (T : Tx K mg C CS CN CB) {f : Addr} {cdv : Value} {A : Around} {outer : List Env} {s : Shared} {H : Hp} {vs : List V} {Q : VK} {E : XK} (h : spAlike0 vs H Q E) :
    ∃ t, PSs (cxOf CX0 P w K mg base nAlike "_law_alike" (defScope (top 41)) f cdv A outer s H E).nox (defBody (top 41)) t ∧ t { nx := fun _ H' => Q .non H', rt := Q } (L2.start nAlike vs) H := by
    obtain ⟨v, rfl, hv, k⟩ := h
    refine ⟨_, pss_cons (ps_if (pt_val (pe_callB call_isiT (by rfl) T.n_isinstance (by decide +kernel) (pa_cons (pv 1) (pa_cons (pe_tup (pa_cons (pe_ty "tuple" T.n_tuple) (pa_cons (pe_ty "list" T.n_list) pa_nil))) pa_nil)))) pss_never pss_nil)
      (pss_cons (ps_if (PW.pt (pw_or (pt_cmp (pc_isN (pv 1))) (pw_or1 (pt_val (pe_callB call_is (by rfl) T.n_isinstance (by decide +kernel) (pa_cons (pv 1) (pa_cons (pe_ty "str" T.n_str) pa_nil)))))))
        (pss_one (ps_ret (pe_and (pe_cmpR op_eq (pv 0) (pv 1) (nomark _)) (pe_one (pe_cmpR op_eq (pe_callB call_is (by rfl) T.n_isinstance (by decide +kernel) (pa_cons (pv 0) (pa_cons (pe_ty "str" T.n_str) pa_nil))) (pe_callB call_is (by rfl) T.n_isinstance (by decide +kernel) (pa_cons (pv 1) (pa_cons (pe_ty "str" T.n_str) pa_nil))) (nomark _)))))) pss_nil)
      (pss_one (ps_ret (pe_and (pe_callB call_is (by rfl) T.n_isinstance (by decide +kernel) (pa_cons (pv 0) (pa_cons (pe_ty "int" T.n_int) pa_nil)))
        (pe_and (pe_cmpR op_eq (pe_callB call_is (by rfl) T.n_isinstance (by decide +kernel) (pa_cons (pv 0) (pa_cons (pe_ty "bool" T.n_bool) pa_nil))) (pe_callB call_is (by rfl) T.n_isinstance (by decide +kernel) (pa_cons (pv 1) (pa_cons (pe_ty "bool" T.n_bool) pa_nil))) (nomark _))
        (pe_one (pe_cmpR op_eq (pv 0) (pv 1) (nomark _)))))))), ?_⟩
    refine ⟨_, rfl, by show 2 ≤ sizeLine; decide, fun tp htp => ?_⟩
    have et : Ex H (upd H tp (.tup [.ty "tuple", .ty "list"])) := Ex.new htp
    have hp2 : Paired ClsV [.ty "tuple", .ty "list"] [.type "tuple", .type "list"] := .cons (.ty _) (.cons (.ty _) .nil)
    rcases hv with ⟨b, rfl⟩ | ⟨i, rfl⟩ | ⟨z, rfl⟩
    · refine ⟨_, tp, _, _, _, false, rfl, upd_same, hp2, ty_bl b, kitAny2 (x := false) (y := false) (by decide +kernel) (by decide +kernel), false, rfl, iteF ?_⟩
      refine ⟨_, rfl, false, rfl, iteF ⟨_, rfl, _, _, _, false, rfl, ty_bl b, kit_ty (by decide +kernel), false, rfl, iteF ?_⟩⟩
      refine ⟨_, rfl, _, _, _, true, rfl, ty_bl b, kit_ty (by decide +kernel), true, rfl, iteT ?_⟩
      refine ⟨_, rfl, _, _, _, true, rfl, ty_bl b, kit_ty (by decide +kernel), _, rfl, _, _, _, true, rfl, ty_bl b, kit_ty (by decide +kernel), rfl, true, rfl, iteT ?_⟩
      refine ⟨_, rfl, _, rfl, rfl, ?_⟩
      show Q (.bl (decide (V.bl b = V.bl b))) _
      rw [decide_eq_true rfl]
      exact k _ et
    · refine ⟨_, tp, _, _, _, false, rfl, upd_same, hp2, ty_int i, kitAny2 (x := false) (y := false) (by decide +kernel) (by decide +kernel), false, rfl, iteF ?_⟩
      refine ⟨_, rfl, false, rfl, iteF ⟨_, rfl, _, _, _, false, rfl, ty_int i, kit_ty (by decide +kernel), false, rfl, iteF ?_⟩⟩
      refine ⟨_, rfl, _, _, _, true, rfl, ty_int i, kit_ty (by decide +kernel), true, rfl, iteT ?_⟩
      refine ⟨_, rfl, _, _, _, false, rfl, ty_int i, kit_ty (by decide +kernel), _, rfl, _, _, _, false, rfl, ty_int i, kit_ty (by decide +kernel), rfl, true, rfl, iteT ?_⟩
      refine ⟨_, rfl, _, rfl, rfl, ?_⟩
      show Q (.bl (decide (V.int i = V.int i))) _
      rw [decide_eq_true rfl]
      exact k _ et
    · refine ⟨_, tp, _, _, _, false, rfl, upd_same, hp2, ty_str z, kitAny2 (x := false) (y := false) (by decide +kernel) (by decide +kernel), false, rfl, iteF ?_⟩
      refine ⟨_, rfl, false, rfl, iteF ⟨_, rfl, _, _, _, true, rfl, ty_str z, kit_ty (by decide +kernel), true, rfl, iteT ?_⟩⟩
      refine ⟨_, rfl, _, rfl, rfl, true, ?_, iteT ?_⟩
      · show V.bl (decide (V.str z = V.str z)) = _
        rw [decide_eq_true rfl]
      refine ⟨_, rfl, _, _, _, true, rfl, ty_str z, kit_ty (by decide +kernel), _, rfl, _, _, _, true, rfl, ty_str z, kit_ty (by decide +kernel), rfl, ?_⟩
      show Q (.bl (decide (V.bl true = V.bl true))) _
      rw [decide_eq_true rfl]
      exact k _ et
theorem ok_alike0 (T : Tx K mg C CS CN CB) : Cal P w K mg base CX0 1 "_law_alike" spAlike0 := by
  refine T.d_alike.cal sc_alike (fun vs H Q E h => ?_) (fun f cdv A outer s H vs Q E hr h => body_alike0 T h)
  obtain ⟨v, rfl, _⟩ := h
  rfl
def spAlikeT : Sp := fun vs H Q _ => ∃ (u v : V) (ns : List Int), vs = [u, v] ∧ IsT H u (ns.map V.int) ∧ IsT H v (ns.map V.int) ∧ ns.length ≤ 1000 ∧ ∀ H', Ex H H' → Q (.bl true) H'
theorem body_alikeT (T : Tx K mg C CS CN CB) {f : Addr} {cdv : Value} {A : Around} {outer : List Env} {s : Shared} {H : Hp} {vs : List V} {Q : VK} {E : XK} (hr : Room 1 (A.deeper (envOfC "_law_alike" (defScope (top 41)) s.heap.objs.size f cdv))) (h : spAlikeT vs H Q E) :
    ∃ t, PSs (cxOf CX0 P w K mg base nAlike "_law_alike" (defScope (top 41)) f cdv A outer s H E).nox (defBody (top 41)) t ∧ t { nx := fun _ H' => Q .non H', rt := Q } (L2.start nAlike vs) H := by
    obtain ⟨u, v, ns, rfl, hu0, hv0, hz, k⟩ := h
    have hu : (A.deeper (envOfC "_law_alike" (defScope (top 41)) s.heap.objs.size f cdv)).units + 64 < cLine := hr.units
    refine ⟨_, pss_cons (ps_if (pt_val (pe_callB call_isiT (by rfl) T.n_isinstance (by decide +kernel) (pa_cons (pv 1) (pa_cons (pe_tup (pa_cons (pe_ty "tuple" T.n_tuple) (pa_cons (pe_ty "list" T.n_list) pa_nil))) pa_nil))))
        (pss_cons (ps_if (PW.pt (pw_or (pt_not (pt_val (pe_callB call_isiT (by rfl) T.n_isinstance (by decide +kernel) (pa_cons (pv 0) (pa_cons (pe_tup (pa_cons (pe_ty "tuple" T.n_tuple) (pa_cons (pe_ty "list" T.n_list) pa_nil))) pa_nil)))))
            (pw_or1 (pt_cmpR op_ne (pe_callB call_is (by rfl) T.n_isinstance (by decide +kernel) (pa_cons (pv 0) (pa_cons (pe_ty "list" T.n_list) pa_nil))) (pe_callB call_is (by rfl) T.n_isinstance (by decide +kernel) (pa_cons (pv 1) (pa_cons (pe_ty "list" T.n_list) pa_nil))) (nomark _))))) pss_never pss_nil)
        (pss_cons (ps_if (pt_cmpR op_ne (pe_callB call_len_seq (by rfl) T.n_len PySem.boot_len (pa_cons (pv 0) pa_nil)) (pe_callB call_len_seq (by rfl) T.n_len PySem.boot_len (pa_cons (pv 1) pa_nil)) (nomark _)) pss_never pss_nil)
        (pss_one (ps_ret (pe_cmpR (op_eqL kI (by decide) hu) (pe_lc (own := [("_law_k", 2)]) (g := gName 2) (tt := tNot (tB (tCall spAlike0 [] E0 (tCons (tOp (rIxT K) (tVar 0) (tVar 2)) (tCons (tOp (rIxT K) (tVar 1) (tVar 2)) tNil))))) (te := tVar 2) rfl sc_alike.nd
          (pi_range1 rfl T.n_range (pa_cons (pe_callB call_len_seq (by rfl) T.n_len PySem.boot_len (pa_cons (pv 1) pa_nil)) pa_nil)) (blkOk_by (N := nAlike) (sc := defScope (top 41)) (by decide +kernel)) (fun _ _ _ _ _ => pg_name (i := 2) sc_alike.nd rfl (Or.inl rfl))
          (fun _ _ _ _ _ => pts_one (pt_not (pt_val (pe_c (ok_alike0 T) hr (by decide) pass0 (pa_cons (pe_ix ix_tup (pv 0) (pv 2) (fun _ _ => rfl)) (pa_cons (pe_ix ix_tup (pv 1) (pv 2) (fun _ _ => rfl)) pa_nil)))))) (fun _ _ _ _ _ => pv 2)) (pe_lst pa_nil) (nomark _)))))) pss_nil) pss_never, ?_⟩
    refine ⟨_, rfl, by show 2 ≤ sizeLine; decide, fun tp htp => ?_⟩
    have et : Ex H (upd H tp (.tup [.ty "tuple", .ty "list"])) := Ex.new htp
    have hp2 : Paired ClsV [.ty "tuple", .ty "list"] [.type "tuple", .type "list"] := .cons (.ty _) (.cons (.ty _) .nil)
    refine ⟨_, tp, _, _, _, true, rfl, upd_same, hp2, ty_tup (hv0.mono et.t), kitAny2 (x := true) (y := false) (by decide +kernel) (by decide +kernel), true, rfl, iteT ?_⟩
    refine ⟨_, rfl, by show 2 ≤ sizeLine; decide, fun tq htq => ?_⟩
    have e2 := et.trans (Ex.new htq (o := .tup [.ty "tuple", .ty "list"]))
    have hu2 := hu0.mono e2.t
    have hv2 := hv0.mono e2.t
    refine ⟨_, tq, _, _, _, true, rfl, upd_same, hp2, ty_tup hu2, kitAny2 (x := true) (y := false) (by decide +kernel) (by decide +kernel), true, rfl, iteF ?_⟩
    refine ⟨_, rfl, _, _, _, false, rfl, ty_tup hu2, kit_ty (by decide +kernel), _, rfl, _, _, _, false, rfl, ty_tup hv2, kit_ty (by decide +kernel), rfl, false, rfl, iteF ?_⟩
    obtain ⟨a, rfl, ha⟩ := id hu2
    obtain ⟨b, rfl, hb⟩ := id hv2
    refine ⟨_, rfl, a, _, rfl, .inr (SqT.rd ha), _, rfl, b, _, rfl, .inr (SqT.rd hb), rfl, false, ?_, iteF ?_⟩
    · show V.bl (!decide (V.int ((ns.map V.int).length : Int) = V.int ((ns.map V.int).length : Int))) = _
      rw [decide_eq_true rfl]
      rfl
    refine ⟨_, rfl, b, _, rfl, .inr (SqT.rd hb), _, rfl, by omega, by rw [List.length_map]; omega, ?_⟩
    rw [List.length_map, Int.toNat_natCast]
    intro D hD
    refine lcD_rng hD kI (fun _ => none) (by omega) (by intros; rfl) (fun i H1 e1 hi => ?_) (fun i c H1 e1 hi hc => by cases hc) (fun H1 e1 hL => ?_)
    · intro H2 e3 Q2 q
      have hni : (ns.map V.int)[i]? = some (.int ns[i]) := by rw [List.getElem?_map, List.getElem?_eq_getElem hi]; rfl
      refine ⟨_, rfl, _, rfl, a, _, _, _, rfl, rfl, SqT.rd ((e1.trans e3).t.rd ha), atI_nat hni, _, rfl, _, rfl, b, _, _, _, rfl, rfl, SqT.rd ((e1.trans e3).t.rd hb), atI_nat hni, .int ns[i], rfl, .inr (.inl ⟨_, rfl⟩), fun H3 e4 => ⟨true, rfl, q H3 e4⟩⟩
    · have hnil : (List.range ns.length).filterMap (fun _ => (none : Option Int)) = [] := by simp
      rw [hnil] at hL
      refine ⟨Nat.zero_le _, fun l2 hl2 => ?_⟩
      have e3 : Ex H1 (upd H1 l2 (.lst [])) := Ex.new hl2
      refine ⟨[], [], hL.ex e3, ⟨l2, [], rfl, upd_same, .nil⟩, ?_⟩
      exact k _ ((e2.trans e1).trans e3)
def spAlike : Sp := fun vs H Q E => spAlike0 vs H Q E ∨ spAlikeT vs H Q E
theorem ok_alike (T : Tx K mg C CS CN CB) : Cal P w K mg base CX0 2 "_law_alike" spAlike := by
  refine T.d_alike.cal sc_alike (fun vs H Q E h => ?_) (fun f cdv A outer s H vs Q E hr h => ?_)
  · rcases h with ⟨v, rfl, _⟩ | ⟨u, v, ns, rfl, _⟩
    · rfl
    · rfl
  · rcases h with h | h
    · exact body_alike0 T h
    · exact body_alikeT T hr h
end
end Sh
set_option Elab.async false
set_option linter.all false
set_option maxRecDepth 100000
set_option maxHeartbeats 4000000
namespace Sh
open PySem PySem.Spec PyProof.Rows L2 RZ
section
variable {P : Program} {w : World} {K : PySem.W.Frag} {mg : Str → Option Value} {base : Heap} {C CS CN CB : Addr}
/-! ### simplices of 0 .. 6 -/
theorem sub_sorted : ∀ {l s : List Int}, l.Pairwise (· < ·) → s.Pairwise (· < ·) → (∀ x ∈ s, x ∈ l) → s.Sublist l
  | _, [], _, _, _ => List.nil_sublist _
  | [], a :: s, _, _, h => absurd (h a List.mem_cons_self) (by simp)
  | b :: l, a :: s, hl, hs, h => by
    rw [List.pairwise_cons] at hl
    have hs' := List.pairwise_cons.mp hs
    rcases List.mem_cons.mp (h a List.mem_cons_self) with e | ha
    · subst e
      refine List.Sublist.cons_cons _ (sub_sorted hl.2 hs'.2 fun x hx => ?_)
      rcases List.mem_cons.mp (h x (List.mem_cons_of_mem _ hx)) with e | h1
      · have := hs'.1 x hx
        omega
      · exact h1
    · refine List.Sublist.cons _ (sub_sorted hl.2 hs fun x hx => ?_)
      rcases List.mem_cons.mp (h x hx) with e | h1
      · have h2 := hl.1 a ha
        rcases List.mem_cons.mp hx with e2 | h3
        · omega
        · have := hs'.1 x h3
          omega
      · exact h1
def l7 : List Int := [0, 1, 2, 3, 4, 5, 6]
theorem perm_erase {α : Type} {x : α} : ∀ {L : List α} {n : Nat}, L[n]? = some x → L.Perm (x :: L.eraseIdx n)
  | [], _, h => by simp at h
  | a :: L, 0, h => by
    simp at h
    subst h
    exact List.Perm.refl _
  | a :: L, n + 1, h => by
    have h1 := perm_erase (L := L) (n := n) (by simpa using h)
    exact (List.Perm.cons a h1).trans (List.Perm.swap x a _)
theorem l7_sorted : l7.Pairwise (· < ·) := by decide
theorem a7_of {s : Sx} (hs : s.Pairwise (· < ·)) (h : ∀ x ∈ s, x ∈ l7) : s ∈ all7 := mem_subs (sub_sorted l7_sorted hs h)
theorem lt_of_le_nd {s : Sx} (h : s.Pairwise (· ≤ ·)) (hn : s.Nodup) : s.Pairwise (· < ·) := by
  induction s with
  | nil => exact List.Pairwise.nil
  | cons a s ih =>
    rw [List.pairwise_cons] at h ⊢
    rw [List.nodup_cons] at hn
    refine ⟨fun b hb => ?_, ih h.2 hn.2⟩
    have := h.1 b hb
    have hne : a ≠ b := fun e => hn.1 (e ▸ hb)
    omega
/-- a row of numbers sorted into a simplex -/
theorem a7_sort {ns s : List Int} (hp : s.Perm ns) (hs : s.Pairwise (· ≤ ·)) (hn : ns.Nodup) (h : ∀ x ∈ ns, x ∈ l7) : s ∈ all7 :=
  a7_of (lt_of_le_nd hs (hp.nodup_iff.mpr hn)) fun x hx => h x (hp.mem_iff.mp hx)
theorem rg7 : rgV 0 7 = l7.map V.int := by rfl
def Sxs (ts : List Sx) : Prop := ∀ s ∈ ts, s ∈ all7 ∧ s ≠ []

/-! ### simplex -/
def spSx (K : PySem.W.Frag) : Sp := fun vs H Q _ => ∃ (S : Scr) (r : Addr), vs = [.ref r, .int 7, .int 3] ∧ Row K S H r ∧ ∀ (s : Sx) v H', Ro K S r H H' → IsS H' v s → s ∈ all7 → s ≠ [] → Q v H'
abbrev nSx : List Str := ["_law_row", "_law_most", "_law_size", "_law_left", "_law_found", "_law_turn"]
theorem sc_sx : FnScope nSx ["_law_row", "_law_most", "_law_size"] (defScope (top 42)) := ⟨rfl, rfl, rfl, by decide +kernel, rfl, by decide +kernel, by decide +kernel⟩
theorem ok_sx (T : Tx K mg C CS CN CB) : Cal P w K mg base CX0 2 "_law_simplex" (spSx K) := by
  refine T.d_simplex.cal sc_sx (fun vs H Q E h => ?_) (fun f cdv A outer s H vs Q E hr h => ?_)
  · obtain ⟨S, r, rfl, _⟩ := h
    rfl
  · obtain ⟨S, r, rfl, hR, k⟩ := h
    refine ⟨_, pss_cons (ps_par (i := 3) (j := 4) rfl sc_sx.nd rfl rfl (by decide) rfl rfl (pa_cons (pe_listRg rfl (by rfl) T.n_list (prg_1 (by rfl) T.n_range (pv 1))) (pa_cons (pe_lst pa_nil) pa_nil)) rfl)
      (pss_cons (ps_for PassesOwn.never rfl (pi_range1 rfl T.n_range (pa_cons (pe_callB (call_min2 rfl) (by rfl) T.n_min (by decide +kernel) (pa_cons (pv 1) (pa_cons (pe_op op_add pe_int (pe_c (ok_taken T) hr (by decide) pass0 (pa_cons (pv 0) (pa_cons (pv 2) pa_nil)))) pa_nil))) pa_nil)) (pg_name (i := 5) sc_sx.nd rfl (Or.inl rfl))
        (pss_one (ps_expr (pe_bm PySem.F.plainAttrs_list PySem.F.slot_list_append PySem.F.type_list_append mt_append (pv 4) (pa_cons (pe_bm PySem.F.plainAttrs_list PySem.F.slot_list_pop PySem.F.type_list_pop mt_popAt (pv 3)
          (pa_cons (pe_c (ok_taken T) hr (by decide) pass0 (pa_cons (pv 0) (pa_cons (pe_callB call_len_seq (by rfl) T.n_len PySem.boot_len (pa_cons (pv 3) pa_nil)) pa_nil))) pa_nil)) pa_nil)))))
      (pss_one (ps_ret (pe_callTy call_tupD (by rfl) T.n_tuple (by decide +kernel) (pa_cons (pe_callB cr_sorted (by rfl) T.n_sorted (by decide +kernel) (pa_cons (pv 4) pa_nil)) pa_nil))))), ?_⟩
    refine ⟨_, rfl, 7, rfl, RgOk.of_le (by decide) (by decide) (by decide) (by decide), fun l1 hl1 => ?_⟩
    rw [rg7]
    have e1 : Ex H (upd H l1 (.lst (l7.map V.int))) := Ex.new hl1
    refine ⟨Nat.zero_le _, fun l2 hl2 => ⟨_, _, rfl, ?_⟩⟩
    have e2 := e1.trans (Ex.new hl2 (o := .lst []))
    have hl20 := e1.back hl2
    have h12 : l1 ≠ l2 := ne_of_none (o := .lst (l7.map V.int)) upd_same hl2
    have hR2 := hR.ex e2
    refine ⟨_, rfl, _, rfl, _, rfl, S, r, 3, rfl, by decide, by decide, hR2, fun n H3 hn hRo => ⟨1, (n : Int), rfl, rfl, 7, 1 + (n : Int), rfl, _, rfl, ?_⟩⟩
    have hmn : (if (1 + (n : Int)) < 7 then 1 + (n : Int) else 7) = ((1 + n : Nat) : Int) := by
      rw [if_pos (by omega)]
      omega
    rw [hmn]
    refine ⟨by omega, by omega, ?_⟩
    rw [Int.toNat_natCast]
    have hR3 : Ro K S r H H3 := (e2.ro hR).trans hRo
    have hl13 : H3 l1 = some (.lst (l7.map V.int)) := hRo.f _ _ (hR.ne hl1) ((upd_ne h12).trans upd_same)
    have hl23 : H3 l2 = some (.lst []) := hRo.f _ _ (hR.ne hl20) upd_same
    refine forR_rng (fun i σ H' => Ro K S r H H' ∧ ∃ o5 L G, σ = [some (.ref r), some (.int 7), some (.int 3), some (.ref l1), some (.ref l2), o5] ∧ H' l1 = some (.lst (L.map V.int)) ∧ H' l2 = some (.lst (G.map V.int)) ∧ (G ++ L).Perm l7 ∧ G.length = i)
      ⟨hR3, none, l7, [], rfl, hl13, hl23, List.Perm.refl _, rfl⟩ ?_ ?_
    · rintro i σ H' hi ⟨ro, o5, L, G, rfl, hL, hG, hp, hGl⟩
      have hlen : G.length + L.length = 7 := by
        have := hp.length_eq
        rw [List.length_append] at this
        exact this
      have hlm : (L.map V.int).length = L.length := List.length_map _
      refine ⟨_, rfl, .inl ⟨rfl, _, SqL.of hG⟩, _, rfl, .inl ⟨rfl, _, SqL.of hL⟩, _, rfl, _, rfl, l1, _, rfl, .inl (SqL.of hL), S, r, L.length, (by rw [hlm]; rfl), by omega, by omega, ro.r, fun n2 H4 hn2 hRo2 => ?_⟩
      have hx : L[n2]? = some L[n2] := List.getElem?_eq_getElem hn2
      generalize L[n2] = x at hx
      have hL4 := hRo2.f _ _ (hR.ne hl1) hL
      have hG4 := hRo2.f _ _ (hR.ne hl20) hG
      have hseq : seqIndex? (n2 : Int) (L.map V.int).length = some n2 := by
        rw [hlm]
        exact (ixN_seq (ixN_of hn2)).1
      refine ⟨l1, _, (n2 : Int), n2, .int x, rfl, rfl, hL4, by omega, by omega, hseq, by rw [List.getElem?_map, hx]; rfl, ?_⟩
      have hG5 : upd H4 l1 (.lst ((L.map V.int).eraseIdx n2)) l2 = some (.lst (G.map V.int)) := (upd_ne (Ne.symm h12)).trans hG4
      refine ⟨l2, _, .int x, rfl, rfl, hG5, sz5l (by rw [List.length_map]; omega), ?_⟩
      refine ⟨((ro.trans hRo2).mut hl1).mut hl20, _, L.eraseIdx n2, G ++ [x], rfl, ?_, ?_, ?_, ?_⟩
      · rw [upd_ne h12, upd_same, map_eraseI]
      · rw [upd_same, List.map_append]
        rfl
      · refine List.Perm.trans ?_ hp
        have h1 : L.Perm (x :: L.eraseIdx n2) := perm_erase hx
        rw [List.append_assoc]
        exact List.Perm.append_left G h1.symm
      · rw [List.length_append, hGl]
        rfl
    · rintro σ H' ⟨ro, o5, L, G, rfl, hL, hG, hp, hGl⟩
      have hGn : G.Nodup := by
        have : (G ++ L).Nodup := hp.nodup_iff.mpr (by decide)
        exact (List.nodup_append.mp this).1
      have hG7 : ∀ x ∈ G, x ∈ l7 := fun x hx => hp.mem_iff.mp (List.mem_append.mpr (.inl hx))
      have hlen : G.length + L.length = 7 := by
        have := hp.length_eq
        rw [List.length_append] at this
        exact this
      refine ⟨_, rfl, l2, G, rfl, SqL.of hG, by omega, fun ns p hpm hso hp0 => ?_⟩
      refine ⟨p, _, rfl, upd_same, fun v H5 e5 hv => ?_⟩
      refine k ns v H5 ((ro.mut (ro.back hp0)).ex e5) hv (a7_sort hpm hso hGn hG7) fun z => ?_
      have := hpm.length_eq
      rw [z, hGl] at this
      simp at this
      omega
end
end Sh
set_option Elab.async false
set_option linter.all false
set_option maxRecDepth 100000
set_option maxHeartbeats 4000000
namespace Sh
open PySem PySem.Spec PyProof.Rows L2 RZ
section
variable {P : Program} {w : World} {K : PySem.W.Frag} {mg : Str → Option Value} {base : Heap} {C CS CN CB : Addr}
/-! ### simplices -/
theorem pe_t3 {X : Cx} {a b c : Int} {ka kb kc : Nat} {pa pb pc pos : Pos} {kk : Nat} : PE X (.Tuple [.Constant (.int a) ka pa, .Constant (.int b) kb pb, .Constant (.int c) kc pc] kk pos) (tTup (tCons (tC (.int a)) (tCons (tC (.int b)) (tCons (tC (.int c)) tNil)))) := pe_tup (pa_cons pe_int (pa_cons pe_int (pa_cons pe_int pa_nil)))
def taLit : List (Int × Int × Int) → TA
  | [] => tNil
  | t :: r => tCons (tTup (tCons (tC (.int t.1)) (tCons (tC (.int t.2.1)) (tCons (tC (.int t.2.2)) tNil)))) (taLit r)
theorem taLit_of : ∀ (l : List (Int × Int × Int)) (σ : L2.St) (H : Hp) (Q : List V → Hp → Prop), (∀ vs H', Ex H H' → Paired (kS.R H') vs (l.map fun t => [t.1, t.2.1, t.2.2]) → Q vs H') → taLit l σ H Q
  | [], _, H, _, h => h [] H (Ex.refl H) .nil
  | t :: r, σ, H, Q, h => by
    refine ⟨by show 3 ≤ sizeLine; decide, fun p hp => ?_⟩
    have e : Ex H (upd H p (.tup [.int t.1, .int t.2.1, .int t.2.2])) := Ex.new hp
    exact taLit_of r σ _ _ fun vs H' e2 hpr => h _ H' (e.trans e2) (.cons ⟨p, rfl, e2 _ _ upd_same⟩ hpr)
def lits : List (Int × Int × Int) := [(0, 1, 2), (0, 1, 3), (0, 2, 4), (0, 3, 5), (0, 4, 5), (1, 2, 5), (1, 3, 4), (1, 4, 5), (2, 3, 4), (2, 3, 5)]
theorem lits_ok : ∀ s ∈ lits.map (fun t => [t.1, t.2.1, t.2.2]), s ∈ all7 ∧ s ≠ [] := by decide +kernel
theorem tsort_of {K : PySem.W.Frag} {H : Hp} {Q : VK} (ns : List Int) (hn : ns.Nodup) (h7 : ∀ x ∈ ns, x ∈ l7) (hne : ns ≠ []) (hl : ns.length < 64) (k : ∀ v s H', Ex H H' → IsS H' v s → s ∈ all7 → s ≠ [] → s.length = ns.length → Q v H') :
    (ns.map V.int).length ≤ sizeLine ∧ ∀ l, H l = none → rSorted K [.ref l] (upd H l (.lst (ns.map V.int))) (fun x H2 => rTupD [x] H2 Q) := by
  refine ⟨by rw [List.length_map, sizeLine_eq]; omega, fun l hl0 => ⟨l, ns, rfl, SqL.of upd_same, hl, fun s p hpm hso hp0 => ⟨p, _, rfl, upd_same, fun v H5 e5 hv => ?_⟩⟩⟩
  have e1 : Ex H (upd H l (.lst (ns.map V.int))) := Ex.new hl0
  refine k v s H5 ((e1.trans (Ex.new hp0)).trans e5) hv (a7_sort hpm hso hn h7) (fun z => hne ?_) hpm.length_eq
  have := hpm.length_eq
  rw [z] at this
  exact List.eq_nil_of_length_eq_zero this.symm
theorem fill_ok : ∀ m : Nat, m < 8 → 2 ≤ m → ∀ j : Nat, j < m → ((List.range m).filterMap fun v : Nat => if (!decide (V.int (v : Int) = V.int (j : Int))) = true then some (v : Int) else none) ∈ all7 ∧ ((List.range m).filterMap fun v : Nat => if (!decide (V.int (v : Int) = V.int (j : Int))) = true then some (v : Int) else none) ≠ [] := by decide +kernel
theorem ring7 : ∀ i : Nat, i < 7 → ([(i : Int), ((i : Int) + 1) % 7, ((i : Int) + 3) % 7] : List Int).Nodup ∧ (∀ x ∈ ([(i : Int), ((i : Int) + 1) % 7, ((i : Int) + 3) % 7] : List Int), x ∈ l7) ∧ ([(i : Int), ((i : Int) + 2) % 7, ((i : Int) + 3) % 7] : List Int).Nodup ∧ ∀ x ∈ ([(i : Int), ((i : Int) + 2) % 7, ((i : Int) + 3) % 7] : List Int), x ∈ l7 := by decide +kernel
theorem ringm3 : ∀ i : Nat, i < 3 → ([(i : Int), ((i : Int) + 1) % 3] : List Int).Nodup ∧ ∀ x ∈ ([(i : Int), ((i : Int) + 1) % 3] : List Int), x ∈ l7 := by decide +kernel
theorem ringm4 : ∀ i : Nat, i < 4 → ([(i : Int), ((i : Int) + 1) % 4] : List Int).Nodup ∧ ∀ x ∈ ([(i : Int), ((i : Int) + 1) % 4] : List Int), x ∈ l7 := by decide +kernel
theorem ringm5 : ∀ i : Nat, i < 5 → ([(i : Int), ((i : Int) + 1) % 5] : List Int).Nodup ∧ ∀ x ∈ ([(i : Int), ((i : Int) + 1) % 5] : List Int), x ∈ l7 := by decide +kernel
theorem ringm6 : ∀ i : Nat, i < 6 → ([(i : Int), ((i : Int) + 1) % 6] : List Int).Nodup ∧ ∀ x ∈ ([(i : Int), ((i : Int) + 1) % 6] : List Int), x ∈ l7 := by decide +kernel
theorem ringm7 : ∀ i : Nat, i < 7 → ([(i : Int), ((i : Int) + 1) % 7] : List Int).Nodup ∧ ∀ x ∈ ([(i : Int), ((i : Int) + 1) % 7] : List Int), x ∈ l7 := by decide +kernel
theorem ringm (m : Nat) (h : m < 8) (i : Nat) (hi : i < m) (h3 : 3 ≤ m) : ([(i : Int), ((i : Int) + 1) % (m : Int)] : List Int).Nodup ∧ ∀ x ∈ ([(i : Int), ((i : Int) + 1) % (m : Int)] : List Int), x ∈ l7 := by
  have : m = 3 ∨ m = 4 ∨ m = 5 ∨ m = 6 ∨ m = 7 := by omega
  rcases this with rfl | rfl | rfl | rfl | rfl
  · exact ringm3 i hi
  · exact ringm4 i hi
  · exact ringm5 i hi
  · exact ringm6 i hi
  · exact ringm7 i hi
def spSims (K : PySem.W.Frag) (most : Nat) : Sp := fun vs H Q _ => ∃ (S : Scr) (r : Addr), vs = [.ref r, .int 7, .int 3] ∧ Row K S H r ∧ ∀ (ts : List Sx) v H', Ro K S r H H' → (kTp kS).R H' v ts → Sxs ts → ts.length ≤ most → Q v H'
abbrev nSim : List Str := ["_law_row", "_law_most", "_law_size", "_law_way", "_law_many", "_law_at_here", "_law_vertex", "_law_found", "_law_turn"]
theorem sc_sim : FnScope nSim ["_law_row", "_law_most", "_law_size"] (defScope (top 43)) := ⟨rfl, rfl, rfl, by decide +kernel, rfl, by decide +kernel, by decide +kernel⟩
abbrev outSc : Scope := { kind := .function, names := [(".0", .local), ("_law_at_here", .cell), ("tuple", .globalImplicit), ("range", .globalImplicit), ("_law_many", .cell)], isGenerator := false, isCoroutine := false }
abbrev inSc : Scope := { kind := .function, names := [(".0", .local), ("_law_vertex", .local), ("_law_at_here", .free)], isGenerator := false, isCoroutine := false }
theorem blk_in : BlkOk nSim outSc inSc [(("_law_vertex" : Str), 6)] := blkOk_by (by decide +kernel)
abbrev rInt1 : List V → Hp → VK → Prop := fun xs H Q => (∃ i, xs = [.int i] ∧ Q (.int i) H) ∨ ∃ k, xs = [.bl k] ∧ Q (.int (if k then 1 else 0)) H
abbrev rModI : R2 := rI (fun _ j => 0 < j) fun i j => .int (i % j)
theorem ok_sims (T : Tx K mg C CS CN CB) : Cal P w K mg base CX0 3 "_law_simplices" (spSims K 20) := by
  refine T.d_simplices.cal sc_sim (fun vs H Q E h => ?_) (fun f cdv A outer s H vs Q E hr h => ?_)
  · obtain ⟨S, r, rfl, _⟩ := h
    rfl
  · obtain ⟨S, r, rfl, hR, k⟩ := h
    refine ⟨_, pss_cons (ps_set (i := 3) sc_sim.nd rfl (Or.inl rfl) (pe_c (ok_taken T) hr (by decide) pass0 (pa_cons (pv 0) (pa_cons pe_int pa_nil))))
      (pss_cons (ps_if (pt_cmpR op_eq (pv 3) pe_int (nomark _))
        (pss_cons (ps_set (i := 4) sc_sim.nd rfl (Or.inr rfl) (pe_op op_add pe_int (pe_c (ok_taken T) hr (by decide) pass0 (pa_cons (pv 0) (pa_cons (pe_callB (call_min2 rfl) (by rfl) T.n_min (by decide +kernel) (pa_cons (pe_op op_sub (pv 1) pe_int) (pa_cons (pv 2) pa_nil))) pa_nil)))))
        (pss_one (ps_ret (pe_callTy (call_tupP kS) (by rfl) T.n_tuple (by decide +kernel) (pa_cons (pe_lc (own := [("_law_at_here", 5)]) (g := gName 5) (tt := tYes) (te := tCB rTupD (tCons (tLc (iRng1 (tCons (tVar 4) tNil)) (gName 6) (tTest (tOp rNe (tVar 6) (tVar 5))) (tVar 6) ([(("_law_vertex" : Str), 6)].map (·.2))) tNil)) rfl sc_sim.nd
          (pi_range1 rfl T.n_range (pa_cons (pv 4) pa_nil)) (blkOk_by (N := nSim) (sc := defScope (top 43)) (by decide +kernel)) (fun _ _ _ _ _ => pg_name (i := 5) sc_sim.nd rfl (Or.inr rfl)) (fun _ _ _ _ _ => pts_nil)
          (fun _ _ _ _ _ => pe_callTy call_tupD (by rfl) T.n_tuple (by decide +kernel) (pa_cons (pe_lc (own := [("_law_vertex", 6)]) (g := gName 6) (tt := tTest (tOp rNe (tVar 6) (tVar 5))) (te := tVar 6) rfl sc_sim.nd (pi_range1 (by rfl) T.n_range (pa_cons (pv 4) pa_nil)) blk_in
            (fun _ _ _ _ _ => pg_name (i := 6) sc_sim.nd rfl (Or.inl rfl)) (fun _ _ _ _ _ => pts_one (pt_cmpR op_ne (pv 6) (pv 5) (nomark _))) (fun _ _ _ _ _ => pv 6)) pa_nil))) pa_nil))))) pss_nil)
      (pss_cons (ps_if (PW.pt (pw_and (pt_cmpR op_eq (pv 3) pe_int (nomark _)) (pw_and (pt_cmpR op_gt (pv 1) pe_int (nomark _)) (pw_and1 (pt_cmpR op_gt (pv 2) pe_int (nomark _)))))) (pss_one (ps_ret (pe_tup (pa_cons pe_t3 (pa_cons pe_t3 (pa_cons pe_t3 (pa_cons pe_t3 (pa_cons pe_t3 (pa_cons pe_t3 (pa_cons pe_t3 (pa_cons pe_t3 (pa_cons pe_t3 (pa_cons pe_t3 pa_nil))))))))))))) pss_nil)
      (pss_cons (ps_if (PW.pt (pw_and (pt_cmpR op_eq (pv 3) pe_int (nomark _)) (pw_and (pt_cmpR op_gt (pv 1) pe_int (nomark _)) (pw_and1 (pt_cmpR op_gt (pv 2) pe_int (nomark _))))))
        (pss_cons (ps_set (i := 7) sc_sim.nd rfl (Or.inl rfl) (pe_lst pa_nil))
        (pss_cons (ps_for PassesOwn.never rfl (pi_range1 rfl T.n_range (pa_cons pe_int pa_nil)) (pg_name (i := 5) sc_sim.nd rfl (Or.inl rfl))
          (pss_cons (ps_expr (pe_bm PySem.F.plainAttrs_list PySem.F.slot_list_append PySem.F.type_list_append mt_append (pv 7) (pa_cons (pe_callTy call_tupD (by rfl) T.n_tuple (by decide +kernel) (pa_cons (pe_callB cr_sorted (by rfl) T.n_sorted (by decide +kernel) (pa_cons (pe_lst (pa_cons (pv 5)
              (pa_cons (pe_op op_mod (pe_callTy call_int1 (by rfl) T.n_int (by decide +kernel) (pa_cons (pe_op op_add (pv 5) pe_int) pa_nil)) pe_int) (pa_cons (pe_op op_mod (pe_callTy call_int1 (by rfl) T.n_int (by decide +kernel) (pa_cons (pe_op op_add (pv 5) pe_int) pa_nil)) pe_int) pa_nil)))) pa_nil)) pa_nil)) pa_nil)))
          (pss_one (ps_expr (pe_bm PySem.F.plainAttrs_list PySem.F.slot_list_append PySem.F.type_list_append mt_append (pv 7) (pa_cons (pe_callTy call_tupD (by rfl) T.n_tuple (by decide +kernel) (pa_cons (pe_callB cr_sorted (by rfl) T.n_sorted (by decide +kernel) (pa_cons (pe_lst (pa_cons (pv 5)
              (pa_cons (pe_op op_mod (pe_callTy call_int1 (by rfl) T.n_int (by decide +kernel) (pa_cons (pe_op op_add (pv 5) pe_int) pa_nil)) pe_int) (pa_cons (pe_op op_mod (pe_callTy call_int1 (by rfl) T.n_int (by decide +kernel) (pa_cons (pe_op op_add (pv 5) pe_int) pa_nil)) pe_int) pa_nil)))) pa_nil)) pa_nil)) pa_nil))))))
        (pss_one (ps_ret (pe_callTy (call_tupP kS) (by rfl) T.n_tuple (by decide +kernel) (pa_cons (pv 7) pa_nil)))))) pss_nil)
      (pss_cons (ps_if (PW.pt (pw_and (pt_cmpR op_eq (pv 3) pe_int (nomark _)) (pw_and (pt_cmpR op_gt (pv 1) pe_int (nomark _)) (pw_and1 (pt_cmpR op_gt (pv 2) pe_int (nomark _))))))
        (pss_cons (ps_set (i := 4) sc_sim.nd rfl (Or.inr rfl) (pe_op op_add pe_int (pe_c (ok_taken T) hr (by decide) pass0 (pa_cons (pv 0) (pa_cons (pe_op op_sub (pv 1) pe_int) pa_nil)))))
        (pss_one (ps_ret (pe_callTy (call_tupP kS) (by rfl) T.n_tuple (by decide +kernel) (pa_cons (pe_lc (own := [("_law_at_here", 5)]) (g := gName 5) (tt := tYes)
          (te := tCB rTupD (tCons (tCB (rSorted K) (tCons (tLst (tCons (tVar 5) (tCons (tOp rModI (tCB rInt1 (tCons (tOp (rI0 fun i j => .int (i + j)) (tVar 5) (tC (.int 1))) tNil)) (tVar 4)) tNil))) tNil)) tNil)) rfl sc_sim.nd
          (pi_range1 rfl T.n_range (pa_cons (pv 4) pa_nil)) (blkOk_by (N := nSim) (sc := defScope (top 43)) (by decide +kernel)) (fun _ _ _ _ _ => pg_name (i := 5) sc_sim.nd rfl (Or.inl rfl)) (fun _ _ _ _ _ => pts_nil)
          (fun _ _ _ _ _ => pe_callTy call_tupD (by rfl) T.n_tuple (by decide +kernel) (pa_cons (pe_callB cr_sorted (by rfl) T.n_sorted (by decide +kernel) (pa_cons (pe_lst (pa_cons (pv 5) (pa_cons (pe_op op_mod (pe_callTy call_int1 (by rfl) T.n_int (by decide +kernel) (pa_cons (pe_op op_add (pv 5) pe_int) pa_nil)) (pv 4)) pa_nil))) pa_nil)) pa_nil))) pa_nil))))) pss_nil)
      (pss_one (ps_ret (pe_callTy (call_tupP kS) (by rfl) T.n_tuple (by decide +kernel) (pa_cons (pe_lc (own := [("_law_turn", 8)]) (g := gName 8) (tt := tYes) (te := tCall (spSx K) [] E0 (tCons (tVar 0) (tCons (tVar 1) (tCons (tVar 2) tNil)))) rfl sc_sim.nd
          (pi_range1 rfl T.n_range (pa_cons (pe_c (ok_taken T) hr (by decide) pass0 (pa_cons (pv 0) (pa_cons pe_int pa_nil))) pa_nil)) (blkOk_by (N := nSim) (sc := defScope (top 43)) (by decide +kernel)) (fun _ _ _ _ _ => pg_name (i := 8) sc_sim.nd rfl (Or.inl rfl)) (fun _ _ _ _ _ => pts_nil)
          (fun _ _ _ _ _ => pe_c (ok_sx T) hr (by decide) pass0 (pa_cons (pv 0) (pa_cons (pv 1) (pa_cons (pv 2) pa_nil))))) pa_nil)))))))), ?_⟩
    have hle : ∀ n : Nat, n ≤ 1000 → n ≤ 1000000 := fun n h => by omega
    refine ⟨_, rfl, S, r, 9, rfl, by decide, by decide, hR, fun way H1 hway R1 => ?_⟩
    refine ⟨_, rfl, rfl, _, rfl, ?_⟩
    by_cases h0 : way = 0
    · refine if_t (decide_eq_true (by rw [h0]; rfl)) ?_
      refine ⟨_, rfl, _, rfl, _, _, rfl, rfl, _, rfl, (7 : Int) - 1, 3, rfl, S, r, 3, rfl, by decide, by decide, R1.r, fun n H2 hn R2 => ⟨2, (n : Int), rfl, rfl, ?_⟩⟩
      have hm : ((2 : Int) + (n : Int)).toNat = 2 + n := by omega
      refine ⟨_, rfl, 2 + (n : Int), rfl, by omega, by omega, ?_⟩
      rw [hm]
      intro D hD
      refine lcD_rng hD kS (fun j => some ((List.range (2 + n)).filterMap fun v : Nat => if (!decide (V.int (v : Int) = V.int (j : Int))) = true then some (v : Int) else none)) (by omega) (by intros; rfl) (fun _ _ _ _ => evb_yes) (fun j c H3 e3 hj hc => ?_) (fun H3 e3 hL => ?_)
      · cases hc
        intro H4 e4 Q q
        refine ⟨_, rfl, 2 + (n : Int), rfl, by omega, by omega, ?_⟩
        rw [hm]
        intro D2 hD2
        refine lcD_rng hD2 kI (fun v : Nat => if (!decide (V.int (v : Int) = V.int (j : Int))) = true then some (v : Int) else none) (by omega) (by intros; rfl) (fun v H5 e5 hv => ?_) (fun v c H5 e5 hv hc => ?_) (fun H5 e5 hL => ?_)
        · rw [ite_isSome]
          exact fun H6 e6 Q q => ⟨_, rfl, _, rfl, rfl, _, rfl, q _ (Ex.refl _)⟩
        · obtain ⟨_, rfl⟩ := ite_some hc
          exact fun H6 e6 Q q => ⟨_, rfl, q _ _ (Ex.refl _) rfl⟩
        · obtain ⟨l, el, hl⟩ := LsD.ints (K := K) hL
          cases el
          exact ⟨D2, _, rfl, hl, fun u H6 e6 hu => q _ _ (e5.trans e6) hu⟩
      · rw [fm_map] at hL
        refine ⟨_, _, rfl, hL, fun v H4 e4 hv => ?_⟩
        refine k _ v H4 (((R1.trans R2).ex e3).ex e4) hv.tp (fun s hs => ?_) (by rw [List.length_map, List.length_range]; omega)
        obtain ⟨j, hj, rfl⟩ := List.mem_map.mp hs
        exact fill_ok (2 + n) (by omega) (by omega) j (List.mem_range.mp hj)
    refine if_f (decide_eq_false (fun z => h0 (by injection z with z; omega))) ?_
    have c7 : decide ((7 : Int) > 5) = true := by decide
    have c3 : decide ((3 : Int) > 2) = true := by decide
    refine ⟨_, rfl, rfl, _, rfl, ?_⟩
    by_cases h1 : way = 1
    · refine if_t (decide_eq_true (by rw [h1]; rfl)) ?_
      refine ⟨_, rfl, _, _, rfl, rfl, _, rfl, iteT ⟨_, rfl, _, _, rfl, rfl, _, rfl, iteT ?_⟩⟩
      refine taLit_of lits _ _ _ fun ws H2 e2 hp => ⟨by rw [pr_len hp, List.length_map]; show 10 ≤ sizeLine; decide, fun p hp0 => ?_⟩
      exact k _ _ _ ((R1.ex e2).ex (Ex.new hp0)) ⟨p, ws, rfl, .inl upd_same, pr_kmono kS (Ex.new hp0).t hp⟩ lits_ok (by decide)
    refine if_f (decide_eq_false (fun z => h1 (by injection z with z; omega))) ?_
    refine iteF ⟨_, rfl, rfl, _, rfl, ?_⟩
    by_cases h2 : way = 2
    · refine if_t (decide_eq_true (by rw [h2]; rfl)) ?_
      refine ⟨_, rfl, _, _, rfl, rfl, _, rfl, iteT ⟨_, rfl, _, _, rfl, rfl, _, rfl, iteT ?_⟩⟩
      refine ⟨Nat.zero_le _, fun l hl => ?_⟩
      have el : Ex H1 (upd H1 l (.lst [])) := Ex.new hl
      refine ⟨7, rfl, by decide, by decide, ?_⟩
      refine forR_rng (fun i σ H' => Ex H1 H' ∧ ∃ o4 o5 o6 o8 ws ts, σ = [some (.ref r), some (.int 7), some (.int 3), some (.int (way : Int)), o4, o5, o6, some (.ref l), o8] ∧ H' l = some (.lst ws) ∧ Paired (kS.R H') ws ts ∧ Sxs ts ∧ ts.length = 2 * i)
        ⟨el, none, none, none, none, [], [], rfl, upd_same, .nil, (fun s hs => by cases hs), rfl⟩ ?_ ?_
      · rintro i σ H' hi ⟨e, o4, o5, o6, o8, ws, ts, rfl, hl2, hp, hs, hlen⟩
        obtain ⟨r1, r2, r3, r4⟩ := ring7 i hi
        have hpl := pr_len hp
        have m7 : (0 : Int) < 7 := by decide
        refine ⟨_, rfl, .inl ⟨rfl, _, SqL.of hl2⟩, _, rfl, _, rfl, _, _, rfl, rfl, .inl ⟨_, rfl, _, _, rfl, rfl, m7, _, rfl, _, _, rfl, rfl, .inl ⟨_, rfl, _, _, rfl, rfl, m7, ?_⟩⟩⟩
        refine tsort_of (K := K) [(i : Int), ((i : Int) + 1) % 7, ((i : Int) + 3) % 7] r1 r2 (by simp) (by show 3 < 64; decide) fun v s2 H2 e2 hv hv7 hvn _ => ?_
        have hl3 := e2 _ _ hl2
        refine ⟨l, _, v, rfl, rfl, hl3, sz5l (by omega), ?_⟩
        have e3 : Ex H1 (upd H2 l (.lst (ws ++ [v]))) := Ex.mut (e.trans e2) hl
        have te3 := e2.t.trans (TEx.wrL hl3 (o := .lst (ws ++ [v])))
        have hl4 : upd H2 l (.lst (ws ++ [v])) l = some (.lst (ws ++ [v])) := upd_same
        refine ⟨_, rfl, .inl ⟨rfl, _, SqL.of hl4⟩, _, rfl, _, rfl, _, _, rfl, rfl, .inl ⟨_, rfl, _, _, rfl, rfl, m7, _, rfl, _, _, rfl, rfl, .inl ⟨_, rfl, _, _, rfl, rfl, m7, ?_⟩⟩⟩
        refine tsort_of (K := K) [(i : Int), ((i : Int) + 2) % 7, ((i : Int) + 3) % 7] r3 r4 (by simp) (by show 3 < 64; decide) fun v5 s5 H5 e5 hv5 hv57 hvn5 _ => ?_
        have hl5 := e5 _ _ hl4
        refine ⟨l, _, v5, rfl, rfl, hl5, sz5l (by rw [List.length_append]; show ws.length + 1 ≤ _; omega), ?_⟩
        have te5 := e5.t.trans (TEx.wrL hl5 (o := .lst (ws ++ [v] ++ [v5])))
        refine ⟨Ex.mut (e3.trans e5) hl, o4, _, o6, o8, _, ts ++ [s2] ++ [s5], rfl, upd_same, pr_snoc (pr_snoc (pr_kmono kS (te3.trans te5) hp) (hv.mono ((TEx.wrL hl3).trans te5))) (hv5.mono (TEx.wrL hl5)), fun s hs' => ?_, ?_⟩
        · rcases List.mem_append.mp hs' with h | h
          · rcases List.mem_append.mp h with h | h
            · exact hs s h
            · rw [List.mem_singleton.mp h]
              exact ⟨hv7, hvn⟩
          · rw [List.mem_singleton.mp h]
            exact ⟨hv57, hvn5⟩
        · rw [List.length_append, List.length_append, hlen]
          show 2 * i + 1 + 1 = _
          omega
      · rintro σ H' ⟨e, o4, o5, o6, o8, ws, ts, rfl, hl2, hp, hs, hlen⟩
        exact ⟨_, rfl, _, _, rfl, ⟨l, ws, rfl, hl2, hp⟩, fun v H4 e4 hv => k ts v H4 ((R1.ex e).ex e4) hv.tp hs (by rw [hlen]; decide)⟩
    refine if_f (decide_eq_false (fun z => h2 (by injection z with z; omega))) ?_
    refine iteF ⟨_, rfl, rfl, _, rfl, ?_⟩
    by_cases h3 : way = 3
    · refine if_t (decide_eq_true (by rw [h3]; rfl)) ?_
      refine ⟨_, rfl, _, _, rfl, rfl, _, rfl, iteT ⟨_, rfl, _, _, rfl, rfl, _, rfl, iteT ?_⟩⟩
      refine ⟨_, rfl, _, rfl, _, _, rfl, rfl, S, r, 5, rfl, by decide, by decide, R1.r, fun n H2 hn R2 => ⟨3, (n : Int), rfl, rfl, ?_⟩⟩
      have hm : ((3 : Int) + (n : Int)).toNat = 3 + n := by omega
      have hm2 : ((3 + n : Nat) : Int) = (3 : Int) + (n : Int) := by omega
      refine ⟨_, rfl, 3 + (n : Int), rfl, by omega, by omega, ?_⟩
      rw [hm]
      intro D hD
      have hD0 := R2.back hD
      have mp : (0 : Int) < (3 : Int) + (n : Int) := by omega
      refine lc_range (fun i H' => Ex H2 H' ∧ ∃ ws ts, H' D = some (.lst ws) ∧ Paired (kS.R H') ws ts ∧ Sxs ts ∧ ts.length = i) ⟨Ex.new hD, [], [], upd_same, .nil, (fun s hs => by cases hs), rfl⟩ (fun i H' hi hq => ?_) (fun H' hq => ?_)
      · obtain ⟨e, ws, ts, hl2, hp, hs, hlen⟩ := hq
        rw [Int.zero_add]
        obtain ⟨r1, r2⟩ := ringm (3 + n) (by omega) i hi (by omega)
        rw [hm2] at r1 r2
        have hpl := pr_len hp
        refine ⟨rfl, _, rfl, _, rfl, _, _, rfl, rfl, .inl ⟨_, rfl, _, rfl, _, _, rfl, rfl, mp, ?_⟩⟩
        refine tsort_of (K := K) [(i : Int), ((i : Int) + 1) % ((3 : Int) + (n : Int))] r1 r2 (by simp) (by show 2 < 64; decide) fun v s2 H3 e3 hv hv7 hvn _ => ?_
        have hl3 := e3 _ _ hl2
        refine ⟨ws, hl3, sz5l (by omega), Ex.mut (e.trans e3) hD, _, ts ++ [s2], upd_same, pr_snoc (pr_kmono kS (e3.t.trans (TEx.wrL hl3)) hp) (hv.mono (TEx.wrL hl3)), fun s hs' => ?_, by rw [List.length_append, hlen]; rfl⟩
        rcases List.mem_append.mp hs' with h | h
        · exact hs s h
        · rw [List.mem_singleton.mp h]
          exact ⟨hv7, hvn⟩
      · obtain ⟨e, ws, ts, hl2, hp, hs, hlen⟩ := hq
        exact ⟨_, _, rfl, ⟨D, ws, rfl, hl2, hp⟩, fun v H4 e4 hv => k ts v H4 (((R1.trans R2).ex e).ex e4) hv.tp hs (by omega)⟩
    refine if_f (decide_eq_false (fun z => h3 (by injection z with z; omega))) ?_
    refine iteF ⟨_, rfl, S, r, 8, rfl, by decide, by decide, R1.r, fun n H2 hn R2 => ⟨_, rfl, by omega, by omega, ?_⟩⟩
    rw [Int.toNat_natCast]
    intro D hD
    have hDr := R2.r.ne hD
    refine lc_range (fun i H' => Ro K S r H2 H' ∧ ∃ ws ts, H' D = some (.lst ws) ∧ Paired (kS.R H') ws ts ∧ Sxs ts ∧ ts.length = i) ⟨(Ex.new hD).ro R2.r, [], [], upd_same, .nil, (fun s hs => by cases hs), rfl⟩ (fun i H' hi hq => ?_) (fun H' hq => ?_)
    · obtain ⟨ro, ws, ts, hl2, hp, hs, hlen⟩ := hq
      have hpl := pr_len hp
      refine ⟨rfl, _, rfl, _, rfl, _, rfl, S, r, rfl, ro.r, fun s2 v H3 R3 hv hv7 hvn => ?_⟩
      have hl3 := R3.f _ _ hDr hl2
      refine ⟨ws, hl3, sz5l (by omega), (ro.trans R3).mut hD, _, ts ++ [s2], upd_same, pr_snoc (pr_kmono kS (R3.n.t.trans (TEx.wrL hl3)) hp) (hv.mono (TEx.wrL hl3)), fun s hs' => ?_, by rw [List.length_append, hlen]; rfl⟩
      rcases List.mem_append.mp hs' with h | h
      · exact hs s h
      · rw [List.mem_singleton.mp h]
        exact ⟨hv7, hvn⟩
    · obtain ⟨ro, ws, ts, hl2, hp, hs, hlen⟩ := hq
      exact ⟨_, _, rfl, ⟨D, ws, rfl, hl2, hp⟩, fun v H4 e4 hv => k ts v H4 (((R1.trans R2).trans ro).ex e4) hv.tp hs (by omega)⟩
end
end Sh
set_option Elab.async false
set_option linter.all false
set_option maxRecDepth 100000
set_option maxHeartbeats 4000000
namespace Sh
open PySem PySem.Spec PyProof.Rows L2 RZ
section
variable {P : Program} {w : World} {K : PySem.W.Frag} {mg : Str → Option Value} {base : Heap} {C CS CN CB : Addr}
/-! ### faces, at -/
theorem mem_lawMet {ts : List Sx} {s : Sx} : s ∈ lawMet ts ↔ ∃ t ∈ ts, s ∈ parts t := by
  unfold lawMet
  have gen : ∀ (r F : List Sx), s ∈ r.foldl (fun F s => addAll F (parts s)) F ↔ s ∈ F ∨ ∃ t ∈ r, s ∈ parts t := by
    intro r
    induction r with
    | nil => intro F; simp
    | cons a r ih =>
      intro F
      rw [List.foldl_cons, ih, mem_addAll]
      constructor
      · rintro ((h | h) | ⟨t, ht, h⟩)
        · exact .inl h
        · exact .inr ⟨a, List.mem_cons_self, h⟩
        · exact .inr ⟨t, List.mem_cons_of_mem _ ht, h⟩
      · rintro (h | ⟨t, ht, h⟩)
        · exact .inl (.inl h)
        · rcases List.mem_cons.mp ht with rfl | ht
          · exact .inl (.inr h)
          · exact .inr ⟨t, ht, h⟩
  rw [gen]
  simp
theorem nd_lawMet (ts : List Sx) : (lawMet ts).Nodup := by
  unfold lawMet
  have gen : ∀ (r F : List Sx), F.Nodup → (r.foldl (fun F s => addAll F (parts s)) F).Nodup := by
    intro r
    induction r with
    | nil => intro F h; exact h
    | cons a r ih => intro F h; exact ih _ (nd_addAll h)
  exact gen _ _ List.nodup_nil
theorem lawMet_ok {ts : List Sx} (h : ∀ s ∈ ts, s ∈ all7) : FOk (lawMet ts) :=
  ⟨nd_lawMet ts, fun s hs => by obtain ⟨t, ht, hp⟩ := mem_lawMet.mp hs; exact (a7_parts (h t ht) hp).1, fun s hs => by obtain ⟨t, ht, hp⟩ := mem_lawMet.mp hs; exact (a7_parts (h t ht) hp).2⟩
def spFaces : Sp := fun vs H Q _ => ∃ v ts, vs = [v] ∧ (kTp kS).R H v ts ∧ Sxs ts ∧ ∀ l H', Ex H H' → H l = none → LsD kS H' (.ref l) (lawFaces ts) → Q (.ref l) H'
abbrev nFcs : List Str := ["_law_simplices_here", "_law_met", "_law_simplex_here", "_law_some", "_law_vertex", "_law_part", "_law_pair"]
theorem sc_fcs : FnScope nFcs ["_law_simplices_here"] (defScope (top 44)) := ⟨rfl, rfl, rfl, by decide +kernel, rfl, by decide +kernel, by decide +kernel⟩
theorem ok_faces (T : Tx K mg C CS CN CB) : Cal P w K mg base CX0 1 "_law_faces" spFaces := by
  refine T.d_faces.cal sc_fcs (fun vs H Q E h => ?_) (fun f cdv A outer s H vs Q E hr h => ?_)
  · obtain ⟨v, x, rfl, _⟩ := h
    rfl
  · obtain ⟨v, ts, rfl, hx, h7, k⟩ := h
    have hu : (A.deeper (envOfC "_law_faces" (defScope (top 44)) s.heap.objs.size f cdv)).units + 64 < cLine := hr.units
    have hu1 : (A.deeper (envOfC "_law_faces" (defScope (top 44)) s.heap.objs.size f cdv)).units + 1 < cLine := by omega
    refine ⟨_, pss_cons (ps_set (i := 1) sc_fcs.nd rfl (Or.inl rfl) pe_dnewT)
      (pss_cons (ps_for PassesOwn.never rfl (pi_tup (pv 0)) (pg_name (i := 2) sc_fcs.nd rfl (Or.inl rfl))
        (pss_cons (ps_set (i := 3) sc_fcs.nd rfl (Or.inl rfl) (pe_lst (pa_cons (pe_tup pa_nil) pa_nil)))
        (pss_cons (ps_for PassesOwn.never rfl (pi_tup (pv 2)) (pg_name (i := 4) sc_fcs.nd rfl (Or.inr rfl))
          (pss_one (ps_set (i := 3) sc_fcs.nd rfl (Or.inl rfl) (pe_op op_cat (pv 3) (pe_lc (own := [("_law_part", 5)]) (g := gName 5) (tt := tYes) (te := tOp rCatD (tVar 5) (tTup (tCons (tVar 4) tNil))) rfl sc_fcs.nd (pi_list (pv 3)) (blkOk_by (N := nFcs) (sc := defScope (top 44)) (by decide +kernel))
            (fun _ _ _ _ _ => pg_name (i := 5) sc_fcs.nd rfl (Or.inl rfl)) (fun _ _ _ _ _ => pts_nil) (fun _ _ _ _ _ => pe_op op_catD (pv 5) (pe_tup (pa_cons (pv 4) pa_nil))))))))
        (pss_one (ps_for PassesOwn.never rfl (pi_list (pe_slice sl_list (pv 3) (po_some pe_int) po_none)) (pg_name (i := 5) sc_fcs.nd rfl (Or.inl rfl)) (pss_one (ps_dput hu1 (pv 1) (pv 5) pe_bl rfl)))))))
      (pss_one (ps_ret (pe_lc (own := [("_law_pair", 6)]) (g := gName 6) (tt := tYes) (te := tOp (rIxT K) (tVar 6) (tC (.int 1))) rfl sc_fcs.nd
        (pi_list (pe_callB (cr_sortK kL hu) (by rfl) T.n_sorted (by decide +kernel) (pa_cons (pe_lc (own := [("_law_part", 5)]) (g := gName 5) (tt := tYes) (te := tTup (tCons (tCB (rLen1 K) (tCons (tVar 5) tNil)) (tCons (tVar 5) tNil))) rfl sc_fcs.nd
          (pi_list (pe_callTy (call_list_dT rfl) (by rfl) T.n_list (by decide +kernel) (pa_cons (pv 1) pa_nil))) (blkOk_by (N := nFcs) (sc := defScope (top 44)) (by decide +kernel)) (fun _ _ _ _ _ => pg_name (i := 5) sc_fcs.nd rfl (Or.inl rfl)) (fun _ _ _ _ _ => pts_nil)
          (fun _ _ _ _ _ => pe_tup (pa_cons (pe_callB call_len_seq (by rfl) T.n_len PySem.boot_len (pa_cons (pv 5) pa_nil)) (pa_cons (pv 5) pa_nil)))) pa_nil)))
        (blkOk_by (N := nFcs) (sc := defScope (top 44)) (by decide +kernel)) (fun _ _ _ _ _ => pg_name (i := 6) sc_fcs.nd rfl (Or.inl rfl)) (fun _ _ _ _ _ => pts_nil) (fun _ _ _ _ _ => pe_ix ix_tup (pv 6) pe_int (fun _ _ => rfl)))))), ?_⟩
    obtain ⟨a, xs, rfl, ha, hp⟩ := hx
    intro d hd
    have e0 : Ex H (upd H d (.dT [])) := Ex.new hd
    refine ⟨_, rfl, a, rfl, ⟨_, SqT.rd (e0.t.rd ha)⟩, ?_⟩
    refine forR_tup kS (pr_kmono kS e0.t hp) (fun r σ H' => TEx (upd H d (.dT [])) H' ∧ Ex H H' ∧ ∃ o2 o3 o4 o5 o6 F, σ = [some (V.ref a), some (V.ref d), o2, o3, o4, o5, o6] ∧ DtAt H' d (sd F) ∧ F.Nodup ∧ (∀ s ∈ F, s ∈ all7) ∧ r.foldl (fun F s => addAll F (parts s)) F = lawMet ts)
      ⟨TEx.refl _, e0, none, none, none, none, none, [], rfl, upd_same, List.nodup_nil, (fun s hs => by cases hs), rfl⟩ (fun r σ H' p => ⟨p.1, SqT.rd (p.2.1.t.rd ha)⟩) ?_ ?_
    · rintro b r y σ H' hy hb ⟨et, e, o2, o3, o4, o5, o6, F, rfl, hv, hn, hF7, hf⟩
      have hb7 := (h7 b hb).1
      refine ⟨Nat.zero_le _, fun t ht => ⟨by show 1 ≤ sizeLine; decide, fun l hl => ?_⟩⟩
      have e1 : Ex H' (upd H' t (.tup [])) := Ex.new ht
      have e2 := e1.trans (Ex.new hl (o := .lst [.ref t]))
      have htl := ne_of_none (o := .tup []) (upd_same (H := H') (a := t)) hl
      obtain ⟨ya, rfl, hya⟩ := id hy
      have hya2 := e2 _ _ hya
      refine ⟨_, rfl, ya, rfl, ⟨_, SqT.of hya2⟩, ?_⟩
      refine forR_tup kI (pr_ints _ b) (fun r2 σ Hk => TEx (upd (upd H' t (.tup [])) l (.lst [.ref t])) Hk ∧ Ex H' Hk ∧ ∃ o4 o5 acc l2, σ = [some (V.ref a), some (V.ref d), some (.ref ya), some (.ref l2), o4, o5, o6] ∧ LsD kS Hk (.ref l2) acc ∧ r2.foldl (fun acc v => acc ++ acc.map (· ++ [v])) acc = parts0 b ∧ ∀ p ∈ acc, p.length + r2.length ≤ b.length)
        ⟨TEx.refl _, e2, o4, o5, [[]], l, rfl, ⟨l, [.ref t], rfl, upd_same, .cons ⟨t, rfl, by rw [upd_ne htl, upd_same]; rfl⟩ .nil⟩, rfl, fun p hp => by rw [List.mem_singleton.mp hp]; simp⟩ (fun r2 σ Hk p => ⟨p.1, SqT.of (p.2.1 _ _ hya)⟩) ?_ ?_
      · rintro c r2 z σ Hk hz hc ⟨et2, ek, o4, o5, acc, l2, rfl, hL, hf2, hk⟩
        have hz : z = V.int c := hz
        subst hz
        obtain ⟨l2', vs2, el2, hl2, hp2⟩ := id hL
        cases el2
        have hsz : acc.length ≤ 128 := Nat.le_trans (parts_len2 (c :: r2) acc) (by rw [hf2]; exact a7_parts_len b hb7)
        refine ⟨_, rfl, _, rfl, l2, rfl, ⟨_, SqL.of hl2⟩, fun D hD => ?_⟩
        refine lcD_lst hD kS kS (fun p => some (p ++ [c])) hl2 hp2 (by omega) (by intros; rfl) (fun _ _ _ _ _ _ => evb_yes) (fun x p c2 H1 e1 hx hp hc => ?_) (fun H1 e1 hL1 => ?_)
        · cases hc
          intro H2 e3 Q q
          refine ⟨_, rfl, _, rfl, by show 1 ≤ sizeLine; decide, fun q0 hq0 => ?_⟩
          have h1 := hk p hp
          have h2 := a7_len hb7
          have en : Ex H2 (upd H2 q0 (.tup [.int c])) := Ex.new hq0
          refine ⟨p.map V.int, [.int c], (hx.mono (e3.trans en).t).d, ⟨q0, rfl, upd_same⟩, by rw [List.length_map]; show p.length + 1 ≤ _; omega, fun u H3 e4 hu3 => q u H3 (en.trans e4) ?_⟩
          obtain ⟨b1, rfl, hb1⟩ := hu3
          exact ⟨b1, rfl, by rw [hb1, List.map_append]; rfl⟩
        · rw [fm_map] at hL1
          obtain ⟨D', zs, eD, hz, hzp⟩ := hL1
          cases eD
          have hl3 := pr_len hzp
          have hl4 := pr_len hp2
          rw [List.length_map] at hl3
          refine ⟨l2, D, vs2, zs, rfl, rfl, e1 _ _ hl2, hz, by rw [sizeLine_eq]; omega, fun l3 hl30 => ?_⟩
          have e3 := e1.trans (Ex.new hl30 (o := .lst (vs2 ++ zs)))
          refine ⟨et2.trans e3.t, ek.trans e3, _, o5, acc ++ acc.map (· ++ [c]), l3, rfl, ⟨l3, vs2 ++ zs, rfl, upd_same, pr_append (pr_kmono kS e3.t hp2) (pr_kmono kS (Ex.new hl30).t hzp)⟩, hf2, fun p hp => ?_⟩
          rcases List.mem_append.mp hp with h | h
          · have := hk p h
            rw [List.length_cons] at this
            omega
          · obtain ⟨p', hp', rfl⟩ := List.mem_map.mp h
            have := hk p' hp'
            rw [List.length_cons] at this
            rw [List.length_append]
            show p'.length + 1 + r2.length ≤ _
            omega
      · rintro σ Hk ⟨et2, ek, o4, o5, acc, l2, rfl, hL, hf2, hk⟩
        have hf2 : acc = parts0 b := hf2
        obtain ⟨l2', vs2, el2, hl2, hp2⟩ := hL
        cases el2
        have hne : 1 ≤ vs2.length := by
          rw [pr_len hp2, hf2]
          exact parts_len2 b [[]]
        refine ⟨_, rfl, _, rfl, l2, vs2, rfl, SqL.of hl2, fun l3 hl30 => ?_⟩
        rw [show (1 : Int) = ((1 : Nat) : Int) from rfl, cut_post _ 1 hne]
        have e3 := ek.trans (Ex.new hl30 (o := .lst (vs2.drop 1)))
        have hp3 : Paired (kS.R (upd Hk l3 (.lst (vs2.drop 1)))) (vs2.drop 1) (parts b) := by
          unfold parts
          rw [← hf2]
          exact pr_drop 1 (pr_kmono kS (Ex.new hl30).t hp2)
        have hl3s : upd Hk l3 (.lst (vs2.drop 1)) l3 = some (.lst (vs2.drop 1)) := upd_same
        refine ⟨l3, rfl, ⟨_, SqL.of hl3s⟩, ?_⟩
        have hf : r.foldl (fun F s => addAll F (parts s)) (addAll F (parts b)) = lawMet ts := hf
        generalize upd Hk l3 (.lst (vs2.drop 1)) = H3 at e3 hp3 hl3s ⊢
        refine forR_lst kS hp3 (fun r3 σ Hm => TEx H3 Hm ∧ Ex H Hm ∧ Hm l3 = some (.lst (vs2.drop 1)) ∧ ∃ o4 o5 G, σ = [some (V.ref a), some (V.ref d), some (.ref ya), some (.ref l2), o4, o5, o6] ∧ DtAt Hm d (sd G) ∧ G.Nodup ∧ (∀ s ∈ G, s ∈ all7) ∧ addAll G r3 = addAll F (parts b))
          ⟨TEx.refl _, e.trans e3, hl3s, o4, o5, F, rfl, e3 _ _ hv, hn, hF7, rfl⟩ (fun r3 σ Hm p => ⟨p.1, SqL.of p.2.2.1⟩) ?_ ?_
        · rintro c r3 z σ Hm hz hc ⟨et4, e4, hl4, o4, o5, G, rfl, hv2, hnG, hG7, hfG⟩
          have hlG := nd7_len hnG hG7
          refine ⟨_, rfl, _, rfl, d, _, rfl, put_of hv2 hz (by rw [sd_len]; omega), ?_⟩
          rw [sd_put]
          have hne2 : l3 ≠ d := fun q => by
            rw [q] at hl4
            have hv2' : Hm d = some (.dT (km (sd G))) := hv2
            rw [hv2'] at hl4
            cases hl4
          refine ⟨et4.trans (TEx.wrT hv2), Ex.mut e4 hd, (upd_ne hne2).trans hl4, _, _, addK G c, rfl, upd_same, nd_addK hnG, fun s hs => ?_, hfG⟩
          rcases mem_addK.mp hs with h | rfl
          · exact hG7 s h
          · exact (a7_parts hb7 hc).1
        · rintro σ Hm ⟨et4, e4, hl4, o4, o5, G, rfl, hv2, hnG, hG7, hfG⟩
          have hfG : G = addAll F (parts b) := hfG
          refine ⟨et.trans ((e3.t).trans et4), e4, _, _, o4, o5, o6, G, rfl, hv2, hnG, hG7, ?_⟩
          rw [hfG]
          exact hf
    · rintro σ H' ⟨et, e, o2, o3, o4, o5, o6, F, rfl, hv, hn, hF7, hf⟩
      have hf : F = lawMet ts := hf
      subst hf
      have hFl := nd7_len hn hF7
      refine ⟨_, rfl, d, _, rfl, .inl hv, fun l bs hl hk => ?_⟩
      have el : Ex H' (upd H' l (.lst (bs.map V.ref))) := Ex.new hl
      refine ⟨l, rfl, ⟨_, SqL.of upd_same⟩, fun D hD => ?_⟩
      refine lcD_lst hD kS kL (fun s => some ((s.length : Int), s)) upd_same (pr_kmono kS el.t (keys_S hk)) (by omega) (by intros; rfl) (fun _ _ _ _ _ _ => evb_yes) (fun x p c H1 e1 hx hp hc => ?_) (fun H1 e1 hL => ?_)
      · cases hc
        intro H2 e3 Q q
        have hx2 := hx.mono e3.t
        obtain ⟨xa, rfl, hxa⟩ := id hx2
        refine ⟨_, rfl, xa, _, rfl, .inr (SqT.of hxa), _, rfl, by show 2 ≤ sizeLine; decide, fun q0 hq0 => q _ _ (Ex.new hq0) ⟨q0, _, _, rfl, upd_same, ?_, hx2.mono (Ex.new hq0).t⟩⟩
        show V.int ((p.map V.int).length : Int) = V.int _
        rw [List.length_map]
      · rw [fm_map] at hL
        refine ⟨_, _, rfl, hL, by decide, all_alike alike_L _, sortable_L _, by rw [List.length_map]; omega, fun w2 H2 e2 hf2 hS => ?_⟩
        obtain ⟨l2, vs2, rfl, hl2, hp2⟩ := hS
        refine ⟨l2, rfl, ⟨_, SqL.of hl2⟩, fun D2 hD2 => ?_⟩
        have hsl : ((((lawMet ts).map fun s => ((s.length : Int), s)).mergeSort (PySem.W.dataLe false kL.enc))).length ≤ 1000000 := by rw [List.length_mergeSort, List.length_map]; omega
        refine lcD_lst hD2 kL kS (fun p => some p.2) hl2 hp2 hsl (by intros; rfl) (fun _ _ _ _ _ _ => evb_yes) (fun x p c H3 e3 hx hp hc => ?_) (fun H3 e3 hL3 => ?_)
        · cases hc
          intro H4 e4 Q q
          obtain ⟨xa, u1, u2, rfl, hxa, hu1, hu2⟩ := hx
          exact p1_of rfl ⟨xa, rfl, .inl (e4 _ _ hxa)⟩ (q _ _ (Ex.refl _) (hu2.mono e4.t))
        · rw [fm_map] at hL3
          have eall := ((e.trans el).trans e1).trans e2
          exact k D2 H3 (eall.trans e3) (eall.back hD2) hL3
def spAt : Sp := fun vs H Q _ => ∃ (u : V) (F : List Sx) (n : Nat), vs = [u, .int (n : Int)] ∧ LsD kS H u F ∧ F.length ≤ 1000 ∧ ∀ v H', Ex H H' → LsD kS H' v (F.filter fun s => decide (s.length = n + 1)) → Q v H'
abbrev nAt : List Str := ["_law_faces_here", "_law_degree", "_law_face"]
theorem sc_at : FnScope nAt ["_law_faces_here", "_law_degree"] (defScope (top 45)) := ⟨rfl, rfl, rfl, by decide +kernel, rfl, by decide +kernel, by decide +kernel⟩
theorem ok_at (T : Tx K mg C CS CN CB) : Cal P w K mg base CX0 1 "_law_at" spAt := by
  refine T.d_at.cal sc_at (fun vs H Q E h => ?_) (fun f cdv A outer s H vs Q E hr h => ?_)
  · obtain ⟨v, x, n, rfl, _⟩ := h
    rfl
  · obtain ⟨u, F, n, rfl, hL, hF, k⟩ := h
    refine ⟨_, pss_one (ps_ret (pe_ifExp (pt_cmpR op_eq (pv 1) (pe_un un_neg pe_int) (nomark _)) (pe_lst (pa_cons (pe_tup pa_nil) pa_nil))
      (pe_lc (own := [("_law_face", 2)]) (g := gName 2) (tt := tTest (tOp rEq (tCB (rLen1 K) (tCons (tVar 2) tNil)) (tOp (rI0 fun i j => .int (i + j)) (tVar 1) (tC (.int 1))))) (te := tVar 2) rfl sc_at.nd (pi_list (pv 0)) (blkOk_by (N := nAt) (sc := defScope (top 45)) (by decide +kernel))
        (fun _ _ _ _ _ => pg_name (i := 2) sc_at.nd rfl (Or.inl rfl)) (fun _ _ _ _ _ => pts_one (pt_cmpR op_eq (pe_callB call_len_seq (by rfl) T.n_len PySem.boot_len (pa_cons (pv 2) pa_nil)) (pe_op op_add (pv 1) pe_int) (nomark _))) (fun _ _ _ _ _ => pv 2)))), ?_⟩
    refine ⟨_, rfl, 1, rfl, rfl, _, rfl, ?_⟩
    refine if_f (decide_eq_false (fun z => by injection z with z; omega)) ?_
    obtain ⟨l, vs, rfl, hl, hp⟩ := hL
    have hpl := pr_len hp
    refine ⟨_, rfl, l, rfl, ⟨_, SqL.of hl⟩, fun D hD => ?_⟩
    refine lcD_lst hD kS kS (fun s => if decide (s.length = n + 1) = true then some s else none) hl hp (by omega) (by intros; rfl) (fun x p H1 e1 hx hp => ?_) (fun x p c H1 e1 hx hp hc => ?_) (fun H1 e1 hL1 => ?_)
    · rw [ite_isSome]
      intro H2 e2 Q q
      obtain ⟨xa, rfl, hxa⟩ := hx.mono e2.t
      refine ⟨_, rfl, xa, _, rfl, .inr (SqT.of hxa), _, rfl, _, _, rfl, rfl, rfl, _, rfl, ?_⟩
      refine (congrArg (fun b => Q b H2) ?_).mpr (q _ (Ex.refl _))
      rw [List.length_map]
      by_cases h : p.length = n + 1
      · rw [decide_eq_true h]
        exact decide_eq_true (by rw [h]; rfl)
      · rw [decide_eq_false h]
        exact decide_eq_false fun z => h (by injection z with z; omega)
    · obtain ⟨_, rfl⟩ := ite_some hc
      exact fun H2 e2 Q q => ⟨_, rfl, q _ _ (Ex.refl _) (hx.mono e2.t)⟩
    · rw [fm_filter] at hL1
      exact k _ H1 e1 hL1
end
end Sh
set_option Elab.async false
set_option linter.all false
set_option maxRecDepth 100000
set_option maxHeartbeats 4000000
namespace Sh
open PySem PySem.Spec PyProof.Rows L2 RZ
section
variable {P : Program} {w : World} {K : PySem.W.Frag} {mg : Str → Option Value} {base : Heap} {C CS CN CB : Addr}
/-! ### wide -/
abbrev nWide : List Str := ["_law_row", "_law_most", "_law_size", "_law_way", "_law_base", "_law_tip", "_law_face", "_law_found", "_law_last", "_law_turn", "_law_fresh", "_law_vertex", "_law_rest"]
theorem sc_wide : FnScope nWide ["_law_row", "_law_most", "_law_size"] (defScope (top 46)) := ⟨rfl, rfl, rfl, by decide +kernel, rfl, by decide +kernel, by decide +kernel⟩
theorem mem_l7 {n : Nat} (h : n < 7) : (n : Int) ∈ l7 := by
  have : n = 0 ∨ n = 1 ∨ n = 2 ∨ n = 3 ∨ n = 4 ∨ n = 5 ∨ n = 6 := by omega
  rcases this with rfl | rfl | rfl | rfl | rfl | rfl | rfl <;> decide
theorem all7_l7 : ∀ s ∈ all7, s.Nodup ∧ ∀ x ∈ s, x ∈ l7 := by decide +kernel
theorem one7 : ∀ n : Nat, n < 7 → ([(n : Int)] : Sx) ∈ all7 := by decide +kernel
theorem rg3 : rgV 0 3 = ([0, 1, 2] : Sx).map V.int := by rfl
theorem sx012 : ([0, 1, 2] : Sx) ∈ all7 ∧ ([0, 1, 2] : Sx) ≠ [] := by decide +kernel
theorem sublist_erase {α : Type} : ∀ (l : List α) (n : Nat), (l.eraseIdx n).Sublist l
  | [], _ => List.Sublist.slnil
  | a :: l, 0 => List.Sublist.cons _ (List.Sublist.refl _)
  | a :: l, n + 1 => List.Sublist.cons_cons _ (sublist_erase l n)
theorem ok_wide (T : Tx K mg C CS CN CB) : Cal P w K mg base CX0 4 "_law_wide" (spSims K 21) := by
  refine T.d_wide.cal sc_wide (fun vs H Q E h => ?_) (fun f cdv A outer s H vs Q E hr h => ?_)
  · obtain ⟨S, r, rfl, _⟩ := h
    rfl
  · obtain ⟨S, r, rfl, hR, k⟩ := h
    have hu : (A.deeper (envOfC "_law_wide" (defScope (top 46)) s.heap.objs.size f cdv)).units + 64 < cLine := hr.units
    have hu2 : (A.deeper (envOfC "_law_wide" (defScope (top 46)) s.heap.objs.size f cdv)).units + 65 < cLine := by have := hr.un; omega
    refine ⟨_, pss_cons (ps_par (i := 3) (j := 4) rfl sc_wide.nd rfl rfl (by decide) rfl rfl (pa_cons (pe_c (ok_taken T) hr (by decide) pass0 (pa_cons (pv 0) (pa_cons pe_int pa_nil))) (pa_cons (pe_c (ok_sims T) hr (by decide) pass0 (pa_cons (pv 0) (pa_cons (pv 1) (pa_cons (pv 2) pa_nil)))) pa_nil)) rfl)
      (pss_cons (ps_if (pt_cmpR op_eq (pv 3) pe_int (nomark _))
        (pss_cons (ps_set (i := 5) sc_wide.nd rfl (Or.inr rfl) (pe_c (ok_taken T) hr (by decide) pass0 (pa_cons (pv 0) (pa_cons (pv 1) pa_nil))))
        (pss_one (ps_ret (pe_op op_catG (pe_callTy call_tupD (by rfl) T.n_tuple (by decide +kernel) (pa_cons (pe_lc (own := [("_law_face", 6)]) (g := gName 6) (tt := tYes)
          (te := tCB rTupD (tCons (tCB (rSortedSet w) (tCons (tCB (rSetT w) (tCons (tOp rCatD (tVar 6) (tTup (tCons (tVar 5) tNil))) tNil)) tNil)) tNil)) rfl sc_wide.nd (pi_tup (pv 4)) (blkOk_by (N := nWide) (sc := defScope (top 46)) (by decide +kernel))
          (fun _ _ _ _ _ => pg_name (i := 6) sc_wide.nd rfl (Or.inl rfl)) (fun _ _ _ _ _ => pts_nil)
          (fun _ _ _ _ _ => pe_callTy call_tupD (by rfl) T.n_tuple (by decide +kernel) (pa_cons (pe_callB (cr_sortedSet rfl) (by rfl) T.n_sorted (by decide +kernel) (pa_cons (pe_callTy (cr_setT rfl) (by rfl) T.n_set (by decide +kernel) (pa_cons (pe_op op_catD (pv 6) (pe_tup (pa_cons (pv 5) pa_nil))) pa_nil)) pa_nil)) pa_nil))) pa_nil))
          (pe_tup (pa_cons (pe_tup (pa_cons (pv 5) pa_nil)) pa_nil)))))) pss_nil)
      (pss_cons (ps_if (pt_cmpR op_eq (pv 3) pe_int (nomark _))
        (pss_cons (ps_asg (pe_tup (pa_cons (pe_lst pa_nil) (pa_cons (pe_tupRg rfl (by rfl) T.n_tuple (prg_1 (by rfl) T.n_range (pe_callB (call_min2 rfl) (by rfl) T.n_min (by decide +kernel) (pa_cons (pv 2) (pa_cons (pv 1) pa_nil))))) pa_nil)))
          (pg_tup rfl (pgs_cons (pg_name (i := 7) sc_wide.nd rfl (Or.inl rfl)) (pgs_cons (pg_name (i := 8) sc_wide.nd rfl (Or.inr rfl)) pgs_nil))))
        (pss_cons (ps_for PassesOwn.never rfl (pi_range1 rfl T.n_range (pa_cons (pe_c (ok_taken T) hr (by decide) pass0 (pa_cons (pv 0) (pa_cons pe_int pa_nil))) pa_nil)) (pg_name (i := 9) sc_wide.nd rfl (Or.inl rfl))
          (pss_cons (ps_expr (pe_bm PySem.F.plainAttrs_list PySem.F.slot_list_append PySem.F.type_list_append mt_append (pv 7) (pa_cons (pv 8) pa_nil)))
          (pss_cons (ps_setLc (i := 10) (own := [("_law_vertex", 11)]) (g := gName 11) (tt := tTest (tOp (rNinT kI) (tVar 11) (tVar 8))) (te := tVar 11) rfl sc_wide.nd rfl rfl (sw_true rfl rfl rfl (by decide +kernel)) (pi_range1 rfl T.n_range (pa_cons (pv 1) pa_nil)) (blkOk_by (N := nWide) (sc := defScope (top 46)) (by decide +kernel))
            (fun _ _ _ _ _ => pg_name (i := 11) sc_wide.nd rfl (Or.inl rfl)) (fun _ _ _ _ _ => pts_one (pt_cmpR (op_ninT kI (by decide) hu2) (pv 11) (pv 8) rfl)) (fun _ _ _ _ _ => pv 11))
          (pss_one (ps_if (pt_cmpR (op_neL kI (by decide) hu) (pv 10) (pe_lst pa_nil) (nomark _))
            (pss_cons (ps_set (i := 12) sc_wide.nd rfl (Or.inl rfl) (pe_callTy call_list_of (by rfl) T.n_list (by decide +kernel) (pa_cons (pv 8) pa_nil)))
            (pss_cons (ps_expr (pe_bm PySem.F.plainAttrs_list PySem.F.slot_list_pop PySem.F.type_list_pop mt_popAt (pv 12) (pa_cons (pe_c (ok_taken T) hr (by decide) pass0 (pa_cons (pv 0) (pa_cons (pe_callB call_len_seq (by rfl) T.n_len PySem.boot_len (pa_cons (pv 12) pa_nil)) pa_nil))) pa_nil)))
            (pss_one (ps_set (i := 8) sc_wide.nd rfl (Or.inr rfl) (pe_callTy call_tupD (by rfl) T.n_tuple (by decide +kernel) (pa_cons (pe_callB cr_sorted (by rfl) T.n_sorted (by decide +kernel) (pa_cons (pe_op op_cat (pv 12) (pe_lst (pa_cons (pe_c (ok_pick T) hr (by decide) pass0 (pa_cons (pv 0) (pa_cons (pv 10) pa_nil))) pa_nil))) pa_nil)) pa_nil)))))) pss_nil)))))
        (pss_one (ps_ret (pe_callTy (call_tupP kS) (by rfl) T.n_tuple (by decide +kernel) (pa_cons (pv 7) pa_nil)))))) pss_nil)
      (pss_one (ps_ret (pv 4))))), ?_⟩
    refine ⟨_, rfl, S, r, 4, rfl, by decide, by decide, hR, fun way H1 hway R1 => ?_⟩
    refine ⟨_, rfl, _, rfl, _, rfl, S, r, rfl, R1.r, fun ts vb H2 R2 hb hts htl => ⟨_, _, rfl, ?_⟩⟩
    have R12 := R1.trans R2
    refine ⟨_, rfl, rfl, _, rfl, ?_⟩
    by_cases h0 : way = 0
    · refine if_t (decide_eq_true (by rw [h0]; rfl)) ?_
      refine ⟨_, rfl, _, rfl, S, r, 7, rfl, by decide, by decide, R2.r, fun tip H3 htip R3 => ?_⟩
      have hb3 := (kTp kS).mono R3.n.t hb
      obtain ⟨a, xs, rfl, ha, hp⟩ := id hb3
      refine ⟨_, rfl, a, rfl, ⟨_, SqT.rd ha⟩, fun D hD => ?_⟩
      have hpl := pr_len hp
      refine lc_tup (xs := xs) (fun i H' => Ex H3 H' ∧ ∃ ws us, H' D = some (.lst ws) ∧ Paired (kS.R H') ws us ∧ Sxs us ∧ us.length = i) ⟨Ex.new hD, [], [], upd_same, .nil, (fun s hs => by cases hs), rfl⟩ (fun i H' _ hq => SqT.rd (hq.1.t.rd ha)) (fun i x H' hx hq => ?_) (fun H' hq => ?_)
      · obtain ⟨e, ws, us, hl2, hp2, hs, hlen⟩ := hq
        obtain ⟨b, hbi, hRb⟩ := pr_get hp hx
        have hb7 := hts b (List.mem_of_getElem? hbi)
        have hRb' := hRb.mono e.t
        have hwl := pr_len hp2
        have hi : i < ts.length := (List.getElem?_eq_some_iff.mp hbi).1
        have hbl := a7_len hb7.1
        refine ⟨rfl, _, rfl, _, rfl, by show 1 ≤ sizeLine; decide, fun q0 hq0 => ?_⟩
        have en : Ex H' (upd H' q0 (.tup [.int (tip : Int)])) := Ex.new hq0
        refine ⟨b.map V.int, [.int (tip : Int)], (hRb'.mono en.t).d, ⟨q0, rfl, upd_same⟩, by rw [List.length_map]; show b.length + 1 ≤ _; omega, fun u H4 e4 hu4 => ?_⟩
        have hu4' : IsS H4 u (b ++ [(tip : Int)]) := by
          obtain ⟨b1, rfl, hb1⟩ := hu4
          exact ⟨b1, rfl, by rw [hb1, List.map_append]; rfl⟩
        refine ⟨u, b ++ [(tip : Int)], rfl, hu4', by rw [List.length_append]; show b.length + 1 ≤ 40; omega, fun p c hp0 hc => ?_⟩
        refine ⟨p, _, c, rfl, upd_same, by rw [List.length_append] at hc; have : c ≤ b.length + 1 := hc; omega, fun ns p2 hso hmem hnl hp20 => ?_⟩
        refine ⟨p2, _, rfl, upd_same, fun v H5 e5 hv => ?_⟩
        have e6 := ((en.trans e4).trans (Ex.new hp0)).trans ((Ex.new hp20).trans e5)
        have hl6 := e6 _ _ hl2
        have hn7 : ns ∈ all7 := a7_of hso fun x hx => by
          have := (hmem x).mp hx
          have hx2 : x ∈ b ++ [(tip : Int)] := of_decide_eq_true this
          rcases List.mem_append.mp hx2 with h | h
          · exact (all7_l7 b hb7.1).2 x h
          · rw [List.mem_singleton.mp h]
            exact mem_l7 htip
        have hne : ns ≠ [] := fun z => by
          have : (tip : Int) ∈ ns := (hmem _).mpr (decide_eq_true (List.mem_append.mpr (.inr (List.mem_singleton.mpr rfl))))
          rw [z] at this
          cases this
        refine ⟨ws, hl6, sz5l (by omega), Ex.mut (e.trans e6) hD, _, us ++ [ns], upd_same, pr_snoc (pr_kmono kS (e6.t.trans (TEx.wrL hl6)) hp2) ((show IsS H5 v ns from hv).mono (TEx.wrL hl6)), fun s hs' => ?_, by rw [List.length_append, hlen]; rfl⟩
        rcases List.mem_append.mp hs' with h | h
        · exact hs s h
        · rw [List.mem_singleton.mp h]
          exact ⟨hn7, hne⟩
      · obtain ⟨e, ws, us, hl2, hp2, hs, hlen⟩ := hq
        refine ⟨D, ws, rfl, hl2, fun v H4 e4 hv => ?_⟩
        refine ⟨_, rfl, by show 1 ≤ sizeLine; decide, fun q1 hq1 => ⟨by show 1 ≤ sizeLine; decide, fun q2 hq2 => ?_⟩⟩
        have en := (Ex.new hq1 (o := .tup [.int (tip : Int)])).trans (Ex.new hq2 (o := .tup [.ref q1]))
        have hq12 := (Ex.new hq2 (o := .tup [.ref q1])) _ _ (upd_same (H := H4) (a := q1) (o := .tup [.int (tip : Int)]))
        have hwl := pr_len hp2
        refine ⟨ws, [.ref q1], (hv.mono en.t).t, ⟨q2, rfl, .inl upd_same⟩, by show ws.length + 1 ≤ _; omega, fun u H6 e6 hu6 => ?_⟩
        obtain ⟨ua, rfl, hua⟩ := hu6
        have e46 := e4.trans (en.trans e6)
        refine k (us ++ [[(tip : Int)]]) _ H6 (((R12.trans R3).ex e).ex e46) ⟨ua, _, rfl, hua, pr_snoc (pr_kmono kS e46.t hp2) ⟨q1, rfl, e6 _ _ hq12⟩⟩ (fun s hs' => ?_) (by rw [List.length_append]; show us.length + 1 ≤ 21; omega)
        rcases List.mem_append.mp hs' with h | h
        · exact hs s h
        · rw [List.mem_singleton.mp h]
          exact ⟨one7 tip htip, by simp⟩
    refine if_f (decide_eq_false (fun z => h0 (by injection z with z; omega))) ?_
    refine ⟨_, rfl, rfl, _, rfl, ?_⟩
    by_cases h1 : way = 1
    · refine if_t (decide_eq_true (by rw [h1]; rfl)) ?_
      refine ⟨Nat.zero_le _, fun l hl => ?_⟩
      have el : Ex H2 (upd H2 l (.lst [])) := Ex.new hl
      refine ⟨_, rfl, _, rfl, 3, 7, rfl, 3, rfl, RgOk.of_le (by decide) (by decide) (by decide) (by decide), fun t ht => ?_⟩
      rw [rg3]
      have et := el.trans (Ex.new ht (o := .tup (([0, 1, 2] : Sx).map V.int)))
      refine ⟨by show 2 ≤ sizeLine; decide, fun t2 ht2 => ?_⟩
      have et2 := et.trans (Ex.new ht2 (o := .tup [.ref l, .ref t]))
      refine ⟨t2, _, rfl, SqT.of upd_same, rfl, _, _, rfl, _, _, rfl, rfl, ?_⟩
      have hlR := R2.r.ne hl
      have htl := ne_of_none (o := .lst []) (upd_same (H := H2) (a := l)) ht
      have hl2 := (Ex.new ht2 (o := .tup [.ref l, .ref t])) _ _ ((Ex.new ht (o := .tup (([0, 1, 2] : Sx).map V.int))) _ _ (upd_same (H := H2) (a := l) (o := .lst [])))
      have ht3 := (Ex.new ht2 (o := .tup [.ref l, .ref t])) _ _ (upd_same (a := t) (H := upd H2 l (.lst [])) (o := .tup (([0, 1, 2] : Sx).map V.int)))
      refine ⟨_, rfl, S, r, 5, rfl, by decide, by decide, R2.r.ex et2, fun n H4 hn R4 => ⟨(n : Int), rfl, by omega, by omega, ?_⟩⟩
      rw [Int.toNat_natCast]
      refine forR_rng (fun i σ H' => Ro K S r H2 H' ∧ ∃ o5 o6 lv o9 o10 o11 o12 ws us last, σ = [some (.ref r), some (.int 7), some (.int 3), some (.int (way : Int)), some vb, o5, o6, some (.ref l), some lv, o9, o10, o11, o12] ∧ H' l = some (.lst ws) ∧ Paired (kS.R H') ws us ∧ Sxs us ∧ us.length = i ∧ IsS H' lv last ∧ last ∈ all7 ∧ last ≠ [])
        ⟨(et2.ro R2.r).trans R4, none, none, .ref t, none, none, none, none, [], [], [0, 1, 2], rfl, R4.f _ _ hlR hl2, .nil, (fun s hs => by cases hs), rfl, ⟨t, rfl, R4.n.t.d _ _ ht3⟩, sx012⟩ ?_ ?_
      · rintro i σ H' hi ⟨ro, o5, o6, lv, o9, o10, o11, o12, ws, us, last, rfl, hlw, hp, hs, hlen, hlv, hla7, hlne⟩
        have hwl := pr_len hp
        refine ⟨_, rfl, .inl ⟨rfl, _, SqL.of hlw⟩, _, rfl, l, _, lv, rfl, rfl, hlw, sz5l (by omega), ?_⟩
        have tw := TEx.wrL hlw (o := .lst (ws ++ [lv]))
        have rw1 := ro.mut hl (o := .lst (ws ++ [lv]))
        have hp1 : Paired (kS.R (upd H' l (.lst (ws ++ [lv])))) (ws ++ [lv]) (us ++ [last]) := pr_snoc (pr_kmono kS tw hp) (hlv.mono tw)
        have hlv1 := hlv.mono tw
        have hlw1 : upd H' l (.lst (ws ++ [lv])) l = some (.lst (ws ++ [lv])) := upd_same
        have hs1 : Sxs (us ++ [last]) := fun s hs' => by
          rcases List.mem_append.mp hs' with h | h
          · exact hs s h
          · rw [List.mem_singleton.mp h]
            exact ⟨hla7, hlne⟩
        have hlen1 : (us ++ [last]).length = i + 1 := by rw [List.length_append, hlen]; rfl
        generalize upd H' l (.lst (ws ++ [lv])) = Ha at rw1 hp1 hlv1 hlw1 ⊢
        refine ⟨_, rfl, 7, rfl, by decide, by decide, fun D hD => ?_⟩
        refine lcD_rng hD kI (fun v : Nat => if (!decide ((v : Int) ∈ last)) = true then some (v : Int) else none) (by decide) (by intros; rfl) (fun v H5 e5 hv => ?_) (fun v c H5 e5 hv hc => ?_) (fun H5 e5 hL => ?_)
        · rw [ite_isSome]
          intro H6 e6 Q q
          refine ⟨_, rfl, _, rfl, (v : Int), last, rfl, (hlv1.mono (e5.trans e6).t).pr, _, rfl, ?_⟩
          exact q _ (Ex.refl _)
        · obtain ⟨_, rfl⟩ := ite_some hc
          exact fun H6 e6 Q q => ⟨_, rfl, q _ _ (Ex.refl _) rfl⟩
        have ro5 := rw1.ex e5
        refine ⟨_, rfl, Nat.zero_le _, fun l6 hl6 => ?_⟩
        have e6 := e5.trans (Ex.new hl6 (o := .lst []))
        refine ⟨_, [], hL.ex (Ex.new hl6), ⟨l6, [], rfl, upd_same, .nil⟩, _, rfl, ?_⟩
        generalize hfr : (List.range (7 : Int).toNat).filterMap (fun v : Nat => if (!decide ((v : Int) ∈ last)) = true then some (v : Int) else none) = fr at hL
        generalize hH6 : upd H5 l6 (.lst []) = H6 at e6
        have hL6 : LsD kI H6 (.ref D) fr := hL.ex (by rw [← hH6]; exact Ex.new hl6)
        by_cases hf : fr = []
        · refine if_f (by simp [hf]) ?_
          exact ⟨rw1.ex e6, o5, o6, lv, _, _, o11, o12, _, _, last, rfl, e6 _ _ hlw1, pr_kmono kS e6.t hp1, hs1, hlen1, hlv1.mono e6.t, hla7, hlne⟩
        refine if_t (by simp [hf]) ?_
        obtain ⟨la, rfl, hla⟩ := id (hlv1.mono e6.t)
        refine ⟨_, rfl, la, _, rfl, .inr (SqT.of hla), fun l7' hl7 => ?_⟩
        have e7 := e6.trans (Ex.new hl7 (o := .lst (last.map V.int)))
        have ro7 := rw1.ex e7
        have hl7r : l7' ≠ r := (rw1.ex e6).r.ne hl7
        have h7l : upd H6 l7' (.lst (last.map V.int)) l7' = some (.lst (last.map V.int)) := upd_same
        have hlam : (last.map V.int).length = last.length := List.length_map _
        have hlapos : 0 < last.length := List.length_pos_iff.mpr hlne
        have hla7' := a7_len hla7
        refine ⟨_, rfl, .inl ⟨rfl, _, SqL.of h7l⟩, _, rfl, _, rfl, l7', _, rfl, .inl (SqL.of h7l), S, r, last.length, (by rw [hlam]; rfl), hlapos, by omega, ro7.r, fun n8 H8 hn8 R8 => ?_⟩
        have hx8 : last[n8]? = some last[n8] := List.getElem?_eq_getElem hn8
        have h8l := R8.f _ _ hl7r h7l
        have hseq : seqIndex? (n8 : Int) (last.map V.int).length = some n8 := by
          rw [hlam]
          exact (ixN_seq (ixN_of hn8)).1
        refine ⟨l7', _, (n8 : Int), n8, .int last[n8], rfl, rfl, h8l, by omega, by omega, hseq, by rw [List.getElem?_map, hx8]; rfl, ?_⟩
        have hl70 : H2 l7' = none := (rw1.ex e6).back hl7
        have ro9 : Ro K S r H2 (upd H8 l7' (.lst ((last.map V.int).eraseIdx n8))) := (ro7.trans R8).mut hl70
        have hDr : D ≠ r := rw1.r.ne hD
        obtain ⟨D', dv, eD, hD6, hDp⟩ := id hL6
        cases eD
        have hdv := ints_pr hDp
        subst hdv
        have hD7 : D ≠ l7' := ne_of_none hD6 hl7
        have hD9 : upd H8 l7' (.lst ((last.map V.int).eraseIdx n8)) D = some (.lst (fr.map V.int)) := (upd_ne hD7).trans (R8.f _ _ hDr ((Ex.new hl7) _ _ hD6))
        have t9 : TEx Ha (upd H8 l7' (.lst ((last.map V.int).eraseIdx n8))) := (e7.t.trans R8.n.t).trans (TEx.wrL h8l)
        have hll7 : l ≠ l7' := ne_of_none (e6 _ _ hlw1) hl7
        have hl9 : upd H8 l7' (.lst ((last.map V.int).eraseIdx n8)) l = some (.lst (ws ++ [V.ref la])) := (upd_ne hll7).trans (R8.f _ _ hlR (e7 _ _ hlw1))
        have h79 : upd H8 l7' (.lst ((last.map V.int).eraseIdx n8)) l7' = some (.lst ((last.map V.int).eraseIdx n8)) := upd_same
        generalize upd H8 l7' (.lst ((last.map V.int).eraseIdx n8)) = H9 at ro9 hD9 t9 hl9 h79 ⊢
        have hfl : fr.length ≤ 7 := by
          rw [← hfr]
          exact List.length_filterMap_le _ _
        refine ⟨_, rfl, _, rfl, _, rfl, S, r, D, _, rfl, ro9.r, hD9, hDr, (fun z => hf (List.map_eq_nil_iff.mp z)), by rw [List.length_map]; omega, fun n10 v10 H10 hv10 R10 => ?_⟩
        rw [List.getElem?_map] at hv10
        obtain ⟨x, hx, ex⟩ := Option.map_eq_some_iff.mp hv10
        subst ex
        have hxm := List.mem_of_getElem? hx
        rw [← hfr] at hxm
        obtain ⟨y, hy, ey⟩ := List.mem_filterMap.mp hxm
        obtain ⟨ey1, ey2⟩ := ite_some ey
        have hy7 : y < 7 := List.mem_range.mp hy
        have hxl : x ∉ last := by
          rw [← ey2]
          simpa using ey1
        have hx7 : x ∈ l7 := by
          rw [← ey2]
          exact mem_l7 hy7
        have h710 := R10.f _ _ hl7r h79
        refine ⟨by show 1 ≤ sizeLine; decide, fun l9 hl90 => ?_⟩
        have en1 : Ex H10 (upd H10 l9 (.lst [.int x])) := Ex.new hl90
        have hel : ((last.map V.int).eraseIdx n8).length ≤ 7 := by
          have := (sublist_erase (last.map V.int) n8).length_le
          omega
        refine ⟨l7', l9, _, _, rfl, rfl, en1 _ _ h710, upd_same, by show ((last.map V.int).eraseIdx n8).length + 1 ≤ _; rw [sizeLine_eq]; omega, fun p hp0 => ?_⟩
        have en2 := en1.trans (Ex.new hp0 (o := .lst ((last.map V.int).eraseIdx n8 ++ [.int x])))
        have hns : (last.map V.int).eraseIdx n8 ++ [V.int x] = (last.eraseIdx n8 ++ [x]).map V.int := by
          rw [List.map_append, map_eraseI]
          rfl
        have hl7s := all7_l7 last hla7
        have hel2 := (sublist_erase last n8).length_le
        refine ⟨p, last.eraseIdx n8 ++ [x], rfl, SqL.of (by rw [upd_same, hns]), by rw [List.length_append]; show (last.eraseIdx n8).length + 1 < 64; omega, fun s' p2 hpm hso hp20 => ?_⟩
        have en3 := en2.trans (Ex.new hp20 (o := .lst (s'.map V.int)))
        refine ⟨p2, _, rfl, upd_same, fun v3 H12 e12 hv3 => ?_⟩
        have en4 := en3.trans e12
        have hnd : (last.eraseIdx n8 ++ [x]).Nodup := by
          rw [List.nodup_append]
          refine ⟨hl7s.1.sublist (sublist_erase _ _), by simp, fun a ha b hb => ?_⟩
          rw [List.mem_singleton.mp hb]
          exact fun z => hxl (z ▸ (sublist_erase last n8).subset ha)
        have hs7 : s' ∈ all7 := a7_sort hpm hso hnd fun y hy => by
          rcases List.mem_append.mp hy with h | h
          · exact hl7s.2 y ((sublist_erase last n8).subset h)
          · rw [List.mem_singleton.mp h]
            exact hx7
        have hsne : s' ≠ [] := fun z => by
          have := hpm.length_eq
          rw [z, List.length_append] at this
          simp at this
        have tt := (t9.trans R10.n.t).trans en4.t
        exact ⟨(ro9.trans R10).ex en4, o5, o6, v3, _, _, o11, _, _, us ++ [last], s', rfl, en4 _ _ (R10.f _ _ hlR hl9), pr_kmono kS tt hp1, hs1, hlen1, hv3, hs7, hsne⟩
      · rintro σ H' ⟨ro, o5, o6, lv, o9, o10, o11, o12, ws, us, last, rfl, hlw, hp, hs, hlen, hlv, hla7, hlne⟩
        exact ⟨_, rfl, _, _, rfl, ⟨l, ws, rfl, hlw, hp⟩, fun v H4 e4 hv => k us v H4 ((R12.trans ro).ex e4) hv.tp hs (by omega)⟩
    refine if_f (decide_eq_false (fun z => h1 (by injection z with z; omega))) ?_
    exact ⟨_, rfl, k ts vb H2 R12 hb hts (by omega)⟩
end
end Sh
set_option Elab.async false
set_option linter.all false
set_option maxRecDepth 100000
set_option maxHeartbeats 4000000
namespace Sh
open PySem PySem.Spec PyProof.Rows L2 RZ
section
variable {P : Program} {w : World} {K : PySem.W.Frag} {mg : Str → Option Value} {base : Heap} {C CS CN CB : Addr}
/-! ### matching -/
structure MtP (F : List Sx) (p : Sx × Sx) : Prop where
  a : p.1 ∈ F
  b : p.2 ∈ F
  l : 1 < p.2.length
  e : ∃ i, i < p.2.length ∧ p.1 = p.2.eraseIdx i
structure Mt (F : List Sx) (P : List (Sx × Sx)) : Prop where
  g : ∀ p ∈ P, MtP F p
  nd : (P.flatMap fun p => [p.1, p.2]).Nodup
def spMatch (K : PySem.W.Frag) : Sp := fun vs H Q _ => ∃ (S : Scr) (r lf : Addr) (F : List Sx), vs = [.ref r, .ref lf] ∧ Row K S H r ∧ LsD kS H (.ref lf) F ∧ lf ≠ r ∧ F.Nodup ∧ (∀ s ∈ F, s ∈ all7) ∧ ∀ P v H', Ro K S r H H' → TpP kP H' v P → Mt F P → Q v H'
abbrev nMat : List Str := ["_law_row", "_law_faces_here", "_law_left", "_law_found", "_law_turn", "_law_some", "_law_big", "_law_at_here", "_law_pair", "_law_face"]
theorem sc_mat : FnScope nMat ["_law_row", "_law_faces_here"] (defScope (top 47)) := ⟨rfl, rfl, rfl, by decide +kernel, rfl, by decide +kernel, by decide +kernel⟩
theorem erase_ne {s : Sx} {i : Nat} (hi : i < s.length) : s.eraseIdx i ≠ s := fun e => by
  have := congrArg List.length e
  rw [List.length_eraseIdx_of_lt hi] at this
  omega
theorem ok_matching (T : Tx K mg C CS CN CB) : Cal P w K mg base CX0 3 "_law_matching" (spMatch K) := by
  refine T.d_matching.cal sc_mat (fun vs H Q E h => ?_) (fun f cdv A outer s H vs Q E hr h => ?_)
  · obtain ⟨S, r, lf, F, rfl, _⟩ := h
    rfl
  · obtain ⟨S, r, lf, F, rfl, hR, hLF, hlfr, hFn, hF7, k⟩ := h
    have hu : (A.deeper (envOfC "_law_matching" (defScope (top 47)) s.heap.objs.size f cdv)).units + 64 < cLine := hr.units
    have hu2 : (A.deeper (envOfC "_law_matching" (defScope (top 47)) s.heap.objs.size f cdv)).units + 65 < cLine := by have := hr.un; omega
    refine ⟨_, pss_cons (ps_par (i := 2) (j := 3) rfl sc_mat.nd rfl rfl (by decide) rfl rfl (pa_cons (pe_callTy call_list_of (by rfl) T.n_list (by decide +kernel) (pa_cons (pv 1) pa_nil)) (pa_cons (pe_lst pa_nil) pa_nil)) rfl)
      (pss_cons (ps_for PassesOwn.never rfl (pi_range1 rfl T.n_range (pa_cons (pe_c (ok_taken T) hr (by decide) pass0 (pa_cons (pv 0) (pa_cons (pe_op op_add (pe_callB call_len_seq (by rfl) T.n_len PySem.boot_len (pa_cons (pv 1) pa_nil)) pe_int) pa_nil))) pa_nil)) (pg_name (i := 4) sc_mat.nd rfl (Or.inl rfl))
        (pss_cons (ps_set (i := 5) sc_mat.nd rfl (Or.inl rfl) (pe_lst pa_nil))
        (pss_cons (ps_for PassesOwn.never rfl (pi_list (pv 2)) (pg_name (i := 6) sc_mat.nd rfl (Or.inl rfl))
          (pss_one (ps_for PassesOwn.never rfl (pi_range1 rfl T.n_range (pa_cons (pe_callB call_len_seq (by rfl) T.n_len PySem.boot_len (pa_cons (pv 6) pa_nil)) pa_nil)) (pg_name (i := 7) sc_mat.nd rfl (Or.inl rfl))
            (pss_one (ps_if (PW.pt (pw_and (pt_cmpR op_gt (pe_callB call_len_seq (by rfl) T.n_len PySem.boot_len (pa_cons (pv 6) pa_nil)) pe_int (nomark _))
                (pw_and1 (pt_cmpR (op_inL kS (by decide) hu2) (pe_op op_catD (pe_slice sl_D (pv 6) po_none (po_some (pv 7))) (pe_slice sl_D (pv 6) (po_some (pe_op op_add (pv 7) pe_int)) po_none)) (pv 2) rfl))))
              (pss_one (ps_expr (pe_bm PySem.F.plainAttrs_list PySem.F.slot_list_append PySem.F.type_list_append mt_append (pv 5) (pa_cons (pe_tup (pa_cons (pe_op op_catD (pe_slice sl_D (pv 6) po_none (po_some (pv 7))) (pe_slice sl_D (pv 6) (po_some (pe_op op_add (pv 7) pe_int)) po_none)) (pa_cons (pv 6) pa_nil))) pa_nil)))) pss_nil)))))
        (pss_one (ps_if (pt_cmpR (op_neL kP (by decide) hu) (pv 5) (pe_lst pa_nil) (nomark _))
          (pss_cons (ps_set (i := 8) sc_mat.nd rfl (Or.inr rfl) (pe_c (ok_pick T) hr (by decide) pass0 (pa_cons (pv 0) (pa_cons (pv 5) pa_nil))))
          (pss_cons (ps_expr (pe_bm PySem.F.plainAttrs_list PySem.F.slot_list_append PySem.F.type_list_append mt_append (pv 3) (pa_cons (pv 8) pa_nil)))
          (pss_one (ps_setLc (i := 2) (own := [("_law_face", 9)]) (g := gName 9) (tt := tTest (tOp (rNinT kS) (tVar 9) (tVar 8))) (te := tVar 9) rfl sc_mat.nd rfl rfl (sw_true rfl rfl rfl (by decide +kernel)) (pi_list (pv 2)) (blkOk_by (N := nMat) (sc := defScope (top 47)) (by decide +kernel))
            (fun _ _ _ _ _ => pg_name (i := 9) sc_mat.nd rfl (Or.inl rfl)) (fun _ _ _ _ _ => pts_one (pt_cmpR (op_ninT kS (by decide) hu2) (pv 9) (pv 8) rfl)) (fun _ _ _ _ _ => pv 9))))) pss_nil)))))
      (pss_one (ps_ret (pe_callTy (call_tupP kP) (by rfl) T.n_tuple (by decide +kernel) (pa_cons (pv 3) pa_nil))))), ?_⟩
    obtain ⟨lf', fv, eF, hlf, hpF⟩ := id hLF
    cases eF
    have hFl := nd7_len hFn hF7
    have hpl := pr_len hpF
    refine ⟨_, rfl, lf, fv, rfl, .inl (SqL.of hlf), fun l1 hl1 => ⟨Nat.zero_le _, fun l2 hl2 => ⟨_, _, rfl, ?_⟩⟩⟩
    have e1 : Ex H (upd H l1 (.lst fv)) := Ex.new hl1
    have e2 := e1.trans (Ex.new hl2 (o := .lst []))
    have hl20 := e1.back hl2
    have h12 : l1 ≠ l2 := ne_of_none (o := .lst fv) upd_same hl2
    have hl1s : upd (upd H l1 (.lst fv)) l2 (.lst []) l1 = some (.lst fv) := (upd_ne h12).trans upd_same
    have hl2s : upd (upd H l1 (.lst fv)) l2 (.lst []) l2 = some (.lst []) := upd_same
    generalize upd (upd H l1 (.lst fv)) l2 (.lst []) = H2 at e2 hl1s hl2s ⊢
    have hm1 : V.int ((fv.length : Int) + 1) = V.int ((F.length + 1 : Nat) : Int) := by
      rw [hpl]
      rfl
    refine ⟨_, rfl, _, rfl, lf, fv, rfl, .inl (SqL.of (e2 _ _ hlf)), _, _, rfl, rfl, S, r, F.length + 1, ?_, by omega, by omega, hR.ex e2, fun n H3 hn R3 => ⟨(n : Int), rfl, by omega, by omega, ?_⟩⟩
    · show [V.ref r, V.int ((fv.length : Int) + 1)] = _
      rw [hm1]
    rw [Int.toNat_natCast]
    have R03 := (e2.ro hR).trans R3
    have hl2R := hR.ne hl20
    have hl1R := hR.ne hl1
    refine forR_rng (fun i σ H' => Ro K S r H H' ∧ ∃ ll L ws P o4 o5 o6 o7 o8 o9, σ = [some (.ref r), some (.ref lf), some (.ref ll), some (.ref l2), o4, o5, o6, o7, o8, o9] ∧ LsD kS H' (.ref ll) L ∧ ll ≠ r ∧ ll ≠ l2 ∧ L.Sublist F ∧ H' l2 = some (.lst ws) ∧ Paired (kP.R H') ws P ∧ P.length ≤ i ∧ Mt F P ∧ ∀ p ∈ P, p.1 ∉ L ∧ p.2 ∉ L)
      ⟨R03, l1, F, [], [], none, none, none, none, none, none, rfl, ⟨l1, fv, rfl, R3.f _ _ hl1R hl1s, pr_kmono kS R03.n.t hpF⟩, hl1R, h12, List.Sublist.refl _, R3.f _ _ hl2R hl2s, .nil, Nat.le_refl _, ⟨(fun p hp => by cases hp), List.nodup_nil⟩, fun p hp => by cases hp⟩ ?_ ?_
    · rintro i σ H' hi ⟨ro, ll, L, ws, Ps, o4, o5, o6, o7, o8, o9, rfl, hL, hllr, hll2, hLF', hws, hpp, hPl, hmt, hdis⟩
      refine ⟨Nat.zero_le _, fun ls hls => ?_⟩
      have el : Ex H' (upd H' ls (.lst [])) := Ex.new hls
      obtain ⟨ll', lv, ell, hll, hpL⟩ := id hL
      cases ell
      have hLl := hLF'.length_le
      have hLn : L.Nodup := hFn.sublist hLF'
      have hL7 : ∀ s ∈ L, s ∈ all7 := fun s hs => hF7 s (hLF'.subset hs)
      have hlls : ll ≠ ls := ne_of_none hll hls
      refine ⟨_, rfl, ll, rfl, ⟨_, SqL.of (el _ _ hll)⟩, ?_⟩
      refine forR_lst kS (pr_kmono kS el.t hpL) (fun rr σ Hk => TEx (upd H' ls (.lst [])) Hk ∧ Ex H' Hk ∧ ∃ o6 o7 sw sm, σ = [some (.ref r), some (.ref lf), some (.ref ll), some (.ref l2), some (.int (i : Int)), some (.ref ls), o6, o7, o8, o9] ∧ Hk ls = some (.lst sw) ∧ Paired (kP.R Hk) sw sm ∧ (∀ p ∈ sm, MtP L p) ∧ sm.length + 8 * rr.length ≤ 8 * L.length)
        ⟨TEx.refl _, el, o6, o7, [], [], rfl, upd_same, .nil, (fun p hp => by cases hp), by simp⟩ (fun rr σ Hk q => ⟨q.1, SqL.of (q.2.1 _ _ hll)⟩) ?_ ?_
      · rintro b rr y σ Hk hy hb ⟨et, ek, o6, o7, sw, sm, rfl, hsw, hps, hsm, hsl⟩
        have hb7 := hL7 b hb
        have hbl := a7_len hb7
        obtain ⟨ya, rfl, hya⟩ := id hy
        refine ⟨_, rfl, ya, _, rfl, .inr (SqT.of hya), _, rfl, by omega, by rw [List.length_map]; omega, ?_⟩
        rw [List.length_map, Int.toNat_natCast]
        rw [List.length_cons] at hsl
        refine forR_rng (fun j σ Hm => TEx Hk Hm ∧ Ex H' Hm ∧ ∃ o7 sw sm, σ = [some (.ref r), some (.ref lf), some (.ref ll), some (.ref l2), some (.int (i : Int)), some (.ref ls), some (.ref ya), o7, o8, o9] ∧ Hm ls = some (.lst sw) ∧ Paired (kP.R Hm) sw sm ∧ (∀ p ∈ sm, MtP L p) ∧ sm.length + 8 * (rr.length + 1) ≤ 8 * L.length + j)
          ⟨TEx.refl _, ek, o7, sw, sm, rfl, hsw, hps, hsm, by omega⟩ ?_ ?_
        · rintro j σ Hm hj ⟨et2, em, o7, sw, sm, rfl, hsw, hps, hsm, hsl2⟩
          have hyam := et2.d _ _ hya
          refine ⟨_, rfl, ya, _, rfl, .inr (SqT.of hyam), _, _, rfl, rfl, _, rfl, ?_⟩
          rw [List.length_map]
          by_cases h1b : 1 < b.length
          case neg =>
            rw [decide_eq_false (by omega)]
            exact iteF (iteF ⟨et2, em, _, sw, sm, rfl, hsw, hps, hsm, by omega⟩)
          rw [decide_eq_true (by omega)]
          refine iteT (face_of (i := 6) (j := 7) rfl rfl (hy.mono et2) hj (by omega) fun z H5 e5 hz => ?_)
          have hL5 := (hL.ex em).ex e5
          refine ⟨_, rfl, b.eraseIdx j, L, hz, hL5, _, rfl, ?_⟩
          have hsw5 := e5 _ _ hsw
          by_cases hin : b.eraseIdx j ∈ L
          case neg =>
            refine if_f (by simp [hin]) ?_
            exact ⟨et2.trans e5.t, em.trans e5, _, sw, sm, rfl, hsw5, pr_kmono kP e5.t hps, hsm, by omega⟩
          refine if_t (by simp [hin]) ?_
          have hpl5 := pr_len hps
          refine ⟨_, rfl, .inl ⟨rfl, _, SqL.of hsw5⟩, ?_⟩
          refine face_of (i := 6) (j := 7) rfl rfl (hy.mono (et2.trans e5.t)) hj (by omega) fun z2 H6 e6 hz2 => ?_
          refine ⟨_, rfl, by show 2 ≤ sizeLine; decide, fun q hq => ?_⟩
          have eq : Ex H6 (upd H6 q (.tup [z2, .ref ya])) := Ex.new hq
          have hswq := (e6.trans eq) _ _ hsw5
          refine ⟨ls, _, .ref q, rfl, rfl, hswq, sz5l (by omega), ?_⟩
          have e56 := e5.trans (e6.trans eq)
          have tw := TEx.wrL hswq (o := .lst (sw ++ [.ref q]))
          refine ⟨(et2.trans e56.t).trans tw, Ex.mut (em.trans e56) hls, _, _, sm ++ [(b.eraseIdx j, b)], rfl, upd_same, pr_snoc (pr_kmono kP (e56.t.trans tw) hps) (kP.mono tw ⟨q, z2, .ref ya, rfl, upd_same, hz2.mono eq.t, hy.mono (et2.trans (e5.t.trans (e6.trans eq).t))⟩), fun p hp => ?_, by rw [List.length_append]; show sm.length + 1 + _ ≤ _; omega⟩
          rcases List.mem_append.mp hp with h | h
          · exact hsm p h
          · rw [List.mem_singleton.mp h]
            exact ⟨hin, hb, h1b, j, hj, rfl⟩
        · rintro σ Hm ⟨et2, em, o7, sw, sm, rfl, hsw, hps, hsm, hsl2⟩
          exact ⟨et.trans et2, em, _, o7, sw, sm, rfl, hsw, hps, hsm, by omega⟩
      · rintro σ Hk ⟨et, ek, o6, o7, sw, sm, rfl, hsw, hps, hsm, hsl⟩
        refine ⟨_, rfl, Nat.zero_le _, fun l6 hl6 => ?_⟩
        have e6 : Ex Hk (upd Hk l6 (.lst [])) := Ex.new hl6
        refine ⟨sm, [], ⟨ls, sw, rfl, e6 _ _ hsw, pr_kmono kP e6.t hps⟩, ⟨l6, [], rfl, upd_same, .nil⟩, _, rfl, ?_⟩
        have ek6 := ek.trans e6
        have ro6 := ro.ex ek6
        by_cases hse : sm = []
        · refine if_f (by simp [hse]) ?_
          exact ⟨ro6, ll, L, ws, Ps, _, _, o6, o7, o8, o9, rfl, hL.ex ek6, hllr, hll2, hLF', ek6 _ _ hws, pr_kmono kP ek6.t hpp, by omega, hmt, hdis⟩
        refine if_t (by simp [hse]) ?_
        have hlsr : ls ≠ r := ro.r.ne hls
        have hspl := pr_len hps
        have hsw6 := e6 _ _ hsw
        have hps6 := pr_kmono kP e6.t hps
        generalize upd Hk l6 (.lst []) = H6 at e6 ek6 ro6 hsw6 hps6
        refine ⟨_, rfl, _, rfl, S, r, ls, sw, rfl, ro6.r, hsw6, hlsr, (fun z => hse (List.eq_nil_of_length_eq_zero (by rw [← hspl, z]; rfl))), by rw [hspl]; simp at hsl; omega, fun n7 v7 H7 hv7 R7 => ?_⟩
        obtain ⟨p, hpi, hpR⟩ := pr_get hps6 hv7
        have hpR7 := kP.mono R7.n.t hpR
        have hpm := hsm p (List.mem_of_getElem? hpi)
        have hws6 := ek6 _ _ hws
        have hws7 := R7.f _ _ hl2R hws6
        have hPpl := pr_len hpp
        refine ⟨_, rfl, .inl ⟨rfl, _, SqL.of hws7⟩, _, rfl, l2, _, v7, rfl, rfl, hws7, sz5l (by omega), ?_⟩
        have tw := TEx.wrL hws7 (o := .lst (ws ++ [v7]))
        have ro8 := (ro6.trans R7).mut hl20 (o := .lst (ws ++ [v7]))
        have hll8 : upd H7 l2 (.lst (ws ++ [v7])) ll = some (.lst lv) := (upd_ne hll2).trans (R7.f _ _ hllr (ek6 _ _ hll))
        have t68 := (ek6.t.trans R7.n.t).trans tw
        have hpL8 := pr_kmono kS t68 hpL
        have hp8 := kP.mono tw hpR7
        have hpp8 : Paired (kP.R (upd H7 l2 (.lst (ws ++ [v7])))) (ws ++ [v7]) (Ps ++ [p]) := pr_snoc (pr_kmono kP t68 hpp) hp8
        have hws8 : upd H7 l2 (.lst (ws ++ [v7])) l2 = some (.lst (ws ++ [v7])) := upd_same
        generalize upd H7 l2 (.lst (ws ++ [v7])) = H8 at ro8 hll8 hpL8 hp8 hpp8 hws8 ⊢
        refine ⟨_, rfl, ll, rfl, ⟨_, SqL.of hll8⟩, fun D hD => ?_⟩
        refine lcD_lst hD kS kS (fun s => if (!decide (s ∈ [p.1, p.2])) = true then some s else none) hll8 hpL8 (by omega) (by intros; rfl) (fun x s2 H9 e9 hx hs2 => ?_) (fun x s2 c H9 e9 hx hs2 hc => ?_) (fun H9 e9 hL9 => ?_)
        · rw [ite_isSome]
          intro H10 e10 Q q
          obtain ⟨y, z, ⟨ap, rfl, hap⟩, hy, hz⟩ := kP_at (kP.mono (e9.trans e10).t hp8)
          refine ⟨_, rfl, _, rfl, s2, [p.1, p.2], hx.mono e10.t, ⟨ap, _, rfl, hap, .cons hy (.cons hz .nil)⟩, _, rfl, ?_⟩
          refine (congrArg (fun b => Q b H10) ?_).mpr (q _ (Ex.refl _))
          by_cases q1 : s2 = p.1 <;> by_cases q2 : s2 = p.2 <;> simp [q1, q2]
        · obtain ⟨_, rfl⟩ := ite_some hc
          exact fun H10 e10 Q q => ⟨_, rfl, q _ _ (Ex.refl _) (hx.mono e10.t)⟩
        · rw [fm_filter] at hL9
          have hDr : D ≠ r := ro8.r.ne hD
          have hD2 : D ≠ l2 := Ne.symm (ne_of_none hws8 hD)
          refine ⟨ro8.ex e9, D, L.filter (fun s => !decide (s ∈ [p.1, p.2])), ws ++ [v7], Ps ++ [p], _, _, o6, o7, _, o9, rfl, hL9, hDr, hD2, List.filter_sublist.trans hLF', e9 _ _ hws8, pr_kmono kP e9.t hpp8, by rw [List.length_append]; show Ps.length + 1 ≤ i + 1; omega, ⟨fun q hq => ?_, ?_⟩, fun q hq => ?_⟩
          · rcases List.mem_append.mp hq with h | h
            · exact hmt.g q h
            · rw [List.mem_singleton.mp h]
              exact ⟨hLF'.subset hpm.a, hLF'.subset hpm.b, hpm.l, hpm.e⟩
          · rw [List.flatMap_append, List.nodup_append]
            refine ⟨hmt.nd, ?_, fun a ha b hb => ?_⟩
            · obtain ⟨j, hj, e⟩ := hpm.e
              have hne : p.1 ≠ p.2 := by rw [e]; exact erase_ne hj
              simp [hne]
            · obtain ⟨q, hq, haq⟩ := List.mem_flatMap.mp ha
              have hd := hdis q hq
              have hb2 : b = p.1 ∨ b = p.2 := by simpa using hb
              have ha2 : a = q.1 ∨ a = q.2 := by simpa using haq
              intro eab
              have hbL : b ∈ L := by
                rcases hb2 with rfl | rfl
                · exact hpm.a
                · exact hpm.b
              rcases ha2 with rfl | rfl
              · exact hd.1 (eab ▸ hbL)
              · exact hd.2 (eab ▸ hbL)
          · rcases List.mem_append.mp hq with h | h
            · have hd := hdis q h
              exact ⟨fun z => hd.1 (List.mem_filter.mp z).1, fun z => hd.2 (List.mem_filter.mp z).1⟩
            · rw [List.mem_singleton.mp h]
              exact ⟨fun z => by have := (List.mem_filter.mp z).2; simp at this, fun z => by have := (List.mem_filter.mp z).2; simp at this⟩
    · rintro σ H' ⟨ro, ll, L, ws, Ps, o4, o5, o6, o7, o8, o9, rfl, hL, hllr, hll2, hLF', hws, hpp, hPl, hmt, hdis⟩
      exact ⟨_, rfl, _, _, rfl, ⟨l2, ws, rfl, hws, hpp⟩, fun v H4 e4 hv => k Ps v H4 (ro.ex e4) hv hmt⟩
end
end Sh
set_option Elab.async false
set_option linter.all false
set_option maxRecDepth 100000
set_option maxHeartbeats 4000000
namespace Sh
open PySem PySem.Spec PyProof.Rows L2 RZ
section
variable {P : Program} {w : World} {K : PySem.W.Frag} {mg : Str → Option Value} {base : Heap} {C CS CN CB : Addr}
/-! ### rings -/
theorem keys_K {H : Hp} : ∀ {kvs : SV} {bs : List Addr}, IsKeys H (km kvs) bs → Paired (kS.R H) (bs.map V.ref) (kvs.map (·.1))
  | [], _, h => by
    have h : Paired _ [] _ := h
    cases h
    exact .nil
  | p :: kvs, _, h => by
    have h : Paired _ ((kk p.1, p.2) :: km kvs) _ := h
    cases h with
    | cons r t => exact .cons (IsS.of_key r) (keys_K t)
theorem Ups.up {H : Hp} {s : Sx} : ∀ {kvs : SV} {P : List (Sx × Sx)}, Ups H kvs P → s ∈ P.map (·.1) → ∃ v, valV kvs s = some v ∧ IsS H v (up P s)
  | _, _, .nil, hs => by cases hs
  | _, _, .cons (a := a) (b := b) (l₂ := P) r t, hs => by
    by_cases e : b.1 = s
    · refine ⟨a.2, valV_pos (by rw [r.1]; exact e), ?_⟩
      have : Sh.up (b :: P) s = b.2 := by
        unfold Sh.up
        rw [List.find?_cons_of_pos (by simp [e])]
        rfl
      rw [this]
      exact r.2
    · have hs' : s ∈ P.map (·.1) := by
        rcases List.mem_cons.mp hs with h | h
        · exact absurd h.symm e
        · exact h
      obtain ⟨v, hv, hi⟩ := Ups.up t hs'
      refine ⟨v, by rw [valV_neg (by rw [r.1]; exact e)]; exact hv, ?_⟩
      have : Sh.up (b :: P) s = Sh.up P s := by
        unfold Sh.up
        rw [List.find?_cons_of_neg (by simp [e])]
      rw [this]
      exact hi
theorem up_mem {P : List (Sx × Sx)} {s : Sx} (h : s ∈ P.map (·.1)) : (s, up P s) ∈ P := by
  obtain ⟨p, hp, e⟩ := List.mem_map.mp h
  unfold up
  cases q : P.find? (fun p => decide (p.1 = s)) with
  | none =>
    have := List.find?_eq_none.mp q p hp
    simp [e] at this
  | some p' =>
    have h1 := List.find?_some q
    have h2 := List.mem_of_find?_eq_some q
    have h3 : p'.1 = s := of_decide_eq_true h1
    show (s, p'.2) ∈ P
    rw [← h3]
    exact h2
/-- the rows of the search stay short -/
def bfsOk (P : List (Sx × Sx)) : Nat → List Sx → List Sx → Prop
  | 0, _, _ => True
  | n + 1, met, here => (moreM P met here).length ≤ 500000 ∧ met.length + (moreM P met here).length ≤ 16000000 ∧ bfsOk P n (met ++ moreM P met here) (moreM P met here)
def spRings : Sp := fun vs H Q _ => ∃ v P, vs = [v] ∧ TpP kP H v P ∧ RCond P ∧ (∀ p ∈ P, bfsOk P (P.length + 1) [] [p.1]) ∧ ∀ H', Ex H H' → Q (.bl (rings P)) H'
abbrev nRgs : List Str := ["_law_pairs", "_law_ups", "_law_first", "_law_met", "_law_here", "_law_turn", "_law_more", "_law_small", "_law_big", "_law_at_here", "_law_downs", "_law_down"]
theorem sc_rgs : FnScope nRgs ["_law_pairs"] (defScope (top 48)) := ⟨rfl, rfl, rfl, by decide +kernel, rfl, by decide +kernel, by decide +kernel⟩
theorem moreM_cons (P : List (Sx × Sx)) (met : List Sx) (s : Sx) (here : List Sx) : moreM P met (s :: here) = (facesOf (up P s)).filter (fun d => !decide (d = s) && (decide (d ∈ P.map (·.1)) && !decide (d ∈ met))) ++ moreM P met here := List.flatMap_cons
theorem moreM_keys {P : List (Sx × Sx)} {met here : List Sx} : ∀ s ∈ moreM P met here, s ∈ P.map (·.1) := fun s hs => by
  obtain ⟨t, _, h⟩ := List.mem_flatMap.mp hs
  have := (List.mem_filter.mp h).2
  simp only [Bool.and_eq_true, decide_eq_true_eq] at this
  exact this.2.1
theorem ok_rings (T : Tx K mg C CS CN CB) : Cal P w K mg base CX0 1 "_law_rings" spRings := by
  refine T.d_rings.cal sc_rgs (fun vs H Q E h => ?_) (fun f cdv A outer s H vs Q E hr h => ?_)
  · obtain ⟨v, P, rfl, _⟩ := h
    rfl
  · obtain ⟨v, ps, rfl, hv, rc, hbd, k⟩ := h
    have hu : (A.deeper (envOfC "_law_rings" (defScope (top 48)) s.heap.objs.size f cdv)).units + 64 < cLine := hr.units
    have hu1 : (A.deeper (envOfC "_law_rings" (defScope (top 48)) s.heap.objs.size f cdv)).units + 1 < cLine := by omega
    have hu2 : (A.deeper (envOfC "_law_rings" (defScope (top 48)) s.heap.objs.size f cdv)).units + 65 < cLine := by have := hr.un; omega
    refine ⟨_, pss_cons (ps_set (i := 1) sc_rgs.nd rfl (Or.inr rfl) (pe_callTy (call_pairsT rfl hu) (by rfl) T.n_dict (by decide +kernel) (pa_cons (pv 0) pa_nil)))
      (pss_cons (ps_for PassesOwn.never rfl (pi_list (pe_callTy (call_list_dT rfl) (by rfl) T.n_list (by decide +kernel) (pa_cons (pv 1) pa_nil))) (pg_name (i := 2) sc_rgs.nd rfl (Or.inl rfl))
        (pss_cons (ps_asg (pe_tup (pa_cons (pe_lst pa_nil) (pa_cons (pe_lst (pa_cons (pv 2) pa_nil)) pa_nil))) (pg_tup rfl (pgs_cons (pg_name (i := 3) sc_rgs.nd rfl (Or.inr rfl)) (pgs_cons (pg_name (i := 4) sc_rgs.nd rfl (Or.inl rfl)) pgs_nil))))
        (pss_one (ps_for PassesOwn.never rfl (pi_range1 rfl T.n_range (pa_cons (pe_op op_add (pe_callB call_len_dT (by rfl) T.n_len PySem.boot_len (pa_cons (pv 1) pa_nil)) pe_int) pa_nil)) (pg_name (i := 5) sc_rgs.nd rfl (Or.inl rfl))
          (pss_cons (ps_set (i := 6) sc_rgs.nd rfl (Or.inl rfl) (pe_lst pa_nil))
          (pss_cons (ps_for PassesOwn.never rfl (pi_list (pv 4)) (pg_name (i := 7) sc_rgs.nd rfl (Or.inr rfl))
            (pss_cons (ps_set (i := 8) sc_rgs.nd rfl (Or.inr rfl) (pe_dget hu1 (pv 1) (pv 7) (fun _ _ => rfl)))
            (pss_cons (ps_setLc (i := 10) (own := [("_law_at_here", 9)]) (g := gName 9) (tt := tYes) (te := tFace 8 9) rfl sc_rgs.nd rfl rfl (sw_true rfl rfl rfl (by decide +kernel)) (pi_range1 rfl T.n_range (pa_cons (pe_callB call_len_seq (by rfl) T.n_len PySem.boot_len (pa_cons (pv 8) pa_nil)) pa_nil)) (blkOk_by (N := nRgs) (sc := defScope (top 48)) (by decide +kernel))
              (fun _ _ _ _ _ => pg_name (i := 9) sc_rgs.nd rfl (Or.inl rfl)) (fun _ _ _ _ _ => pts_nil) (fun _ _ _ _ _ => pe_op op_catD (pe_slice sl_D (pv 8) po_none (po_some (pv 9))) (pe_slice sl_D (pv 8) (po_some (pe_op op_add (pv 9) pe_int)) po_none)))
            (pss_one (ps_set (i := 6) sc_rgs.nd rfl (Or.inl rfl) (pe_op op_cat (pv 6) (pe_lc (own := [("_law_down", 11)]) (g := gName 11) (tt := tAnd (tTest (tOp (rNeK kS) (tVar 11) (tVar 7))) (tAnd (tB (tDIn (tVar 11) (tVar 1))) (tTest (tOp (rNinL kS) (tVar 11) (tVar 3))))) (te := tVar 11) rfl sc_rgs.nd (pi_list (pv 10)) (blkOk_by (N := nRgs) (sc := defScope (top 48)) (by decide +kernel))
              (fun _ _ _ _ _ => pg_name (i := 11) sc_rgs.nd rfl (Or.inl rfl)) (fun _ _ _ _ _ => pts_one (PW.pt (pw_and (pt_cmpR (op_neK kS (by decide) hu) (pv 11) (pv 7) (nomark _)) (pw_and (pt_cmp (pc_din hu1 (pv 11) (pv 1))) (pw_and1 (pt_cmpR (op_ninL kS (by decide) hu2) (pv 11) (pv 3) rfl)))))) (fun _ _ _ _ _ => pv 11))))))))
          (pss_cons (ps_if (pt_cmpR (op_inL kS (by decide) hu2) (pv 2) (pv 6) rfl) (pss_one (ps_ret pe_bl)) pss_nil)
          (pss_one (ps_asg (pe_tup (pa_cons (pe_op op_cat (pv 3) (pv 6)) (pa_cons (pv 6) pa_nil))) (pg_tup rfl (pgs_cons (pg_name (i := 3) sc_rgs.nd rfl (Or.inr rfl)) (pgs_cons (pg_name (i := 4) sc_rgs.nd rfl (Or.inl rfl)) pgs_nil))))))))))))
      (pss_one (ps_ret pe_bl))), ?_⟩
    refine ⟨_, rfl, v, ps, rfl, hv, rc.nd, fun d kvs hd hU => ?_⟩
    have e0 : Ex H (upd H d (.dT (km kvs))) := Ex.new hd
    have hD0 : upd H d (.dT (km kvs)) d = some (.dT (km kvs)) := upd_same
    have hU0 := hU.mono e0.t
    generalize upd H d (.dT (km kvs)) = H0 at e0 hD0 hU0 ⊢
    have hkl : kvs.length = ps.length := pr_len hU
    refine ⟨_, rfl, d, _, rfl, .inl hD0, fun l bs hl hk => ?_⟩
    have el : Ex H0 (upd H0 l (.lst (bs.map V.ref))) := Ex.new hl
    have hkp : Paired (kS.R (upd H0 l (.lst (bs.map V.ref)))) (bs.map V.ref) (ps.map (·.1)) := by
      rw [← Ups.keys hU]
      exact pr_kmono kS el.t (keys_K hk)
    have hls : upd H0 l (.lst (bs.map V.ref)) l = some (.lst (bs.map V.ref)) := upd_same
    generalize upd H0 l (.lst (bs.map V.ref)) = H1 at el hkp hls ⊢
    have e01 := e0.trans el
    have hfew := rc.few
    refine ⟨l, rfl, ⟨_, SqL.of hls⟩, ?_⟩
    refine forR_lst kS hkp (fun r σ H' => Ex H1 H' ∧ ∃ o2 o3 o4 o5 o6 o7 o8 o9 o10 o11, σ = [some v, some (.ref d), o2, o3, o4, o5, o6, o7, o8, o9, o10, o11] ∧ (∀ s ∈ r, s ∈ ps.map (·.1)) ∧ r.any (fun s => bfs ps s (ps.length + 1) [] [s]) = rings ps)
      ⟨Ex.refl _, none, none, none, none, none, none, none, none, none, none, rfl, fun s hs => hs, by unfold rings; rw [List.any_map]; rfl⟩ (fun r σ H' q => ⟨q.1.t, SqL.of (q.1 _ _ hls)⟩) ?_ ?_
    · rintro b r y σ H' hy hb ⟨e, o2, o3, o4, o5, o6, o7, o8, o9, o10, o11, rfl, hrk, hany⟩
      rw [List.any_cons] at hany
      refine ⟨Nat.zero_le _, fun lm hlm => ⟨_, rfl, by show 1 ≤ sizeLine; decide, fun lh hlh => ⟨by show 2 ≤ sizeLine; decide, fun tt htt => ?_⟩⟩⟩
      have e2 : Ex H' (upd H' lm (.lst [])) := Ex.new hlm
      have e3 := e2.trans (Ex.new hlh (o := .lst [y]))
      have e4 := e3.trans (Ex.new htt (o := .tup [.ref lm, .ref lh]))
      have hm4 : upd (upd (upd H' lm (.lst [])) lh (.lst [y])) tt (.tup [.ref lm, .ref lh]) lm = some (.lst []) := (Ex.new htt) _ _ ((Ex.new hlh) _ _ upd_same)
      have hh4 : upd (upd (upd H' lm (.lst [])) lh (.lst [y])) tt (.tup [.ref lm, .ref lh]) lh = some (.lst [y]) := (Ex.new htt) _ _ upd_same
      have ht4 : upd (upd (upd H' lm (.lst [])) lh (.lst [y])) tt (.tup [.ref lm, .ref lh]) tt = some (.tup [.ref lm, .ref lh]) := upd_same
      generalize upd (upd (upd H' lm (.lst [])) lh (.lst [y])) tt (.tup [.ref lm, .ref lh]) = H4 at e4 hm4 hh4 ht4 ⊢
      refine ⟨tt, _, rfl, SqT.of ht4, rfl, _, _, rfl, _, _, rfl, rfl, ?_⟩
      have eb4 := e.trans e4
      have hD4 := eb4 _ _ (el _ _ hD0)
      refine ⟨_, rfl, d, _, rfl, hD4, _, _, rfl, rfl, ((ps.length + 1 : Nat) : Int), ?_, by omega, by omega, ?_⟩
      · rw [km_len, hkl]
        rfl
      rw [Int.toNat_natCast]
      have hbp : ∃ p ∈ ps, p.1 = b := List.mem_map.mp hb
      obtain ⟨p0, hp0, ep0⟩ := hbp
      have hbd0 := hbd p0 hp0
      rw [ep0] at hbd0
      refine forR_rng (fun i σ H5 => Ex H1 H5 ∧ IsS H5 y b ∧ ∃ vm vh o5 o6 o7 o8 o9 o10 o11 met here, σ = [some v, some (.ref d), some y, some vm, some vh, o5, o6, o7, o8, o9, o10, o11] ∧ LsD kS H5 vm met ∧ LsD kS H5 vh here ∧ (∀ s ∈ here, s ∈ ps.map (·.1)) ∧ here.length ≤ 500000 ∧ bfsOk ps (ps.length + 1 - i) met here ∧ bfs ps b (ps.length + 1 - i) met here = bfs ps b (ps.length + 1) [] [b])
        ⟨eb4, hy.mono e4.t, .ref lm, .ref lh, o5, o6, o7, o8, o9, o10, o11, [], [b], rfl, ⟨lm, [], rfl, hm4, .nil⟩, ⟨lh, [y], rfl, hh4, .cons (hy.mono e4.t) .nil⟩, (fun s hs => by rw [List.mem_singleton.mp hs]; exact hb), (by show 1 ≤ 500000; decide), hbd0, rfl⟩ ?_ ?_
      · rintro i σ H5 hi ⟨e5, hy5, vm, vh, o5, o6, o7, o8, o9, o10, o11, met, here, rfl, hM, hH, hhk, hhl, hok, hbf⟩
        obtain ⟨n, hn⟩ : ∃ n, ps.length + 1 - i = n + 1 := ⟨ps.length - i, by omega⟩
        rw [hn] at hok hbf
        obtain ⟨ok1, ok2, ok3⟩ := hok
        have hbf : (if b ∈ moreM ps met here then true else bfs ps b n (met ++ moreM ps met here) (moreM ps met here)) = bfs ps b (ps.length + 1) [] [b] := hbf
        refine ⟨Nat.zero_le _, fun lr hlr => ?_⟩
        have e6 : Ex H5 (upd H5 lr (.lst [])) := Ex.new hlr
        obtain ⟨lh2, hv2, rfl, hlh2, hhp2⟩ := hH.ex e6
        have hlr6 : upd H5 lr (.lst []) lr = some (.lst []) := upd_same
        generalize upd H5 lr (.lst []) = H6 at e6 hlh2 hhp2 hlr6 ⊢
        have hM6 := hM.ex e6
        refine ⟨_, rfl, lh2, rfl, ⟨_, SqL.of hlh2⟩, ?_⟩
        refine forR_lst kS hhp2 (fun r2 σ H7 => Ex H6 H7 ∧ ∃ vr o7 o8 o9 o10 o11 mr, σ = [some v, some (.ref d), some y, some vm, some (.ref lh2), some (.int (i : Int)), some vr, o7, o8, o9, o10, o11] ∧ LsD kS H7 vr mr ∧ (∀ s ∈ r2, s ∈ ps.map (·.1)) ∧ mr ++ moreM ps met r2 = moreM ps met here)
          ⟨Ex.refl _, .ref lr, o7, o8, o9, o10, o11, [], rfl, ⟨lr, [], rfl, hlr6, .nil⟩, hhk, rfl⟩ (fun r2 σ H7 q => ⟨q.1.t, SqL.of (q.1 _ _ hlh2)⟩) ?_ ?_
        · rintro c r2 z σ H7 hz hc ⟨e7, vr, o7, o8, o9, o10, o11, mr, rfl, hR7, hr2k, hmr⟩
          rw [moreM_cons] at hmr
          have hck := hr2k c List.mem_cons_self
          have e17 := e5.trans (e6.trans e7)
          have hD7 := e17 _ _ (el _ _ hD0)
          have hU7 := hU0.mono (el.trans e17).t
          obtain ⟨vb, hvb, hib⟩ := Ups.up hU7 hck
          have hup := up_mem hck
          have hul := rc.len _ hup
          refine ⟨_, rfl, _, rfl, d, vb, rfl, ?_, ?_⟩
          · rw [← hvb]
            exact get_of (.inl hD7) hz
          obtain ⟨ab, eab, hab⟩ := id hib
          refine ⟨_, rfl, ab, _, by rw [eab], .inr (SqT.of hab), _, rfl, by omega, by rw [List.length_map]; have : (up ps c).length ≤ 8 := hul; omega, ?_⟩
          rw [List.length_map, Int.toNat_natCast]
          intro D hD
          have hul' : (up ps c).length ≤ 8 := hul
          refine lcD_rng hD kS (fun i => some ((up ps c).eraseIdx i)) (by omega) (by intros; rfl) (fun _ _ _ _ => evb_yes) (fun j c2 H8 e8 hj hc => ?_) (fun H8 e8 hL => ?_)
          · cases hc
            intro H9 e9 Q q
            exact face_of (i := 8) (j := 9) rfl rfl (hib.mono (e8.trans e9).t) hj (by omega) fun w7 H10 e10 hw => q _ _ e10 hw
          rw [facesOf_fm] at hL
          obtain ⟨D', dvs, eD, hDl, hDp⟩ := hL
          cases eD
          have hfl2 : (facesOf (up ps c)).length = (up ps c).length := by unfold facesOf; rw [List.length_map, List.length_range]
          refine ⟨_, rfl, _, rfl, D, rfl, ⟨_, SqL.of hDl⟩, fun D2 hD2 => ?_⟩
          have e78 := e7.trans e8
          refine lcD_lst hD2 kS kS (fun dn => if (!decide (dn = c) && (decide (dn ∈ ps.map (·.1)) && !decide (dn ∈ met))) = true then some dn else none) hDl hDp (by omega) (by intros; rfl) (fun x dn H9 e9 hx hdn => ?_) (fun x dn c2 H9 e9 hx hdn hc => ?_) (fun H9 e9 hL => ?_)
          · rw [ite_isSome]
            intro H10 e10 Q q
            have e8x := (e8.trans e9).trans e10
            refine ⟨_, rfl, _, rfl, dn, c, hx.mono e10.t, hz.mono e8x.t, _, rfl, ?_⟩
            by_cases q1 : dn = c
            · refine if_f (by simp [q1]) ?_
              have := q H10 (Ex.refl _)
              rw [decide_eq_true q1] at this
              exact this
            refine if_t (by simp [q1]) ?_
            refine ⟨_, rfl, _, rfl, d, _, rfl, get_of (.inl (e8x _ _ hD7)) (hx.mono e10.t), _, rfl, ?_⟩
            rw [hU7.val]
            by_cases q2 : dn ∈ ps.map (·.1)
            case neg =>
              refine if_f (decide_eq_false q2) ?_
              have := q H10 (Ex.refl _)
              rw [decide_eq_false q2, Bool.false_and, Bool.and_false] at this
              exact this
            refine if_t (decide_eq_true q2) ?_
            refine ⟨_, rfl, _, rfl, dn, met, hx.mono e10.t, hM6.ex ((e78.trans e9).trans e10), _, rfl, ?_⟩
            have := q H10 (Ex.refl _)
            rw [decide_eq_false q1, decide_eq_true q2] at this
            refine (congrArg (fun b => Q b H10) ?_).mpr this
            by_cases q3 : dn ∈ met <;> simp [q3]
          · obtain ⟨_, rfl⟩ := ite_some hc
            exact fun H10 e10 Q q => ⟨_, rfl, q _ _ (Ex.refl _) (hx.mono e10.t)⟩
          · rw [fm_filter] at hL
            obtain ⟨D3, d2, eD2, hD2l, hD2p⟩ := hL
            cases eD2
            have e79 := e78.trans e9
            obtain ⟨lr7, rv7, rfl, hlr7, hrp7⟩ := hR7.ex (e8.trans e9)
            have hl1 := pr_len hD2p
            have hl2 := pr_len hrp7
            have hfl3 := List.length_filter_le (fun d => !decide (d = c) && (decide (d ∈ ps.map (·.1)) && !decide (d ∈ met))) (facesOf (up ps c))
            have hmrl : mr.length ≤ 500000 := by
              have := congrArg List.length hmr
              rw [List.length_append] at this
              omega
            refine ⟨lr7, D2, _, _, rfl, rfl, hlr7, hD2l, by rw [sizeLine_eq]; omega, fun l9 hl9 => ?_⟩
            have e9n : Ex H9 (upd H9 l9 (.lst (rv7 ++ d2))) := Ex.new hl9
            refine ⟨e79.trans e9n, .ref l9, _, _, o9, _, o11, mr ++ _, rfl, ⟨l9, _, rfl, upd_same, pr_append (pr_kmono kS e9n.t hrp7) (pr_kmono kS e9n.t hD2p)⟩, fun s hs => hr2k s (List.mem_cons_of_mem _ hs), ?_⟩
            rw [← hmr, List.append_assoc]
        · rintro σ H7 ⟨e7, vr, o7, o8, o9, o10, o11, mr, rfl, hR7, hr2k, hmr⟩
          have hmr : mr = moreM ps met here := by
            rw [← hmr]
            exact (List.append_nil mr).symm
          subst hmr
          have e57 := e6.trans e7
          refine ⟨_, rfl, _, rfl, b, _, hy5.mono e57.t, hR7, _, rfl, ?_⟩
          by_cases hin : b ∈ moreM ps met here
          · refine if_t (by simp [hin]) ?_
            rw [if_pos hin] at hbf
            rw [← hbf, Bool.true_or] at hany
            have := k H7 ((e01.trans e5).trans e57)
            rw [← hany] at this
            exact this
          refine if_f (by simp [hin]) ?_
          rw [if_neg hin] at hbf
          obtain ⟨lm7, mv7, rfl, hlm7, hmp7⟩ := hM6.ex e7
          obtain ⟨lr7, rv7, rfl, hlr7, hrp7⟩ := id hR7
          have hl1 := pr_len hmp7
          have hl2 := pr_len hrp7
          refine ⟨_, rfl, _, rfl, lm7, lr7, _, _, rfl, rfl, hlm7, hlr7, by rw [sizeLine_eq]; omega, fun l9 hl9 => ⟨_, rfl, by show 2 ≤ sizeLine; decide, fun t9 ht9 => ?_⟩⟩
          have e8 : Ex H7 (upd H7 l9 (.lst (mv7 ++ rv7))) := Ex.new hl9
          have e9 := e8.trans (Ex.new ht9 (o := .tup [.ref l9, .ref lr7]))
          have hl99 : upd (upd H7 l9 (.lst (mv7 ++ rv7))) t9 (.tup [.ref l9, .ref lr7]) l9 = some (.lst (mv7 ++ rv7)) := (Ex.new ht9) _ _ upd_same
          refine ⟨t9, _, rfl, SqT.of upd_same, rfl, _, _, rfl, _, _, rfl, rfl, ?_⟩
          have en : ps.length + 1 - (i + 1) = n := by omega
          have e59 := e57.trans e9
          refine ⟨e5.trans e59, hy5.mono e59.t, .ref l9, .ref lr7, _, _, o7, o8, o9, o10, o11, met ++ moreM ps met here, moreM ps met here, rfl, ⟨l9, _, rfl, hl99, pr_append (pr_kmono kS e9.t hmp7) (pr_kmono kS e9.t hrp7)⟩, ⟨lr7, _, rfl, e9 _ _ hlr7, pr_kmono kS e9.t hrp7⟩, moreM_keys, ok1, ?_, ?_⟩
          · rw [en]
            exact ok3
          · rw [en]
            exact hbf
      · rintro σ H5 ⟨e5, hy5, vm, vh, o5, o6, o7, o8, o9, o10, o11, met, here, rfl, hM, hH, hhk, hhl, hok, hbf⟩
        rw [Nat.sub_self] at hbf
        have hbf : false = bfs ps b (ps.length + 1) [] [b] := hbf
        rw [← hbf, Bool.false_or] at hany
        exact ⟨e5, _, _, _, _, o6, o7, o8, o9, o10, o11, rfl, fun s hs => hrk s (List.mem_cons_of_mem _ hs), hany⟩
    · rintro σ H' ⟨e, o2, o3, o4, o5, o6, o7, o8, o9, o10, o11, rfl, hrk, hany⟩
      have hany : false = rings ps := hany
      have := k H' (e01.trans e)
      rw [← hany] at this
      exact this
end
end Sh
set_option Elab.async false
set_option linter.all false
set_option maxRecDepth 100000
set_option maxHeartbeats 4000000
namespace Sh
open PySem PySem.Spec PyProof.Rows L2 RZ
/-! The plain law, first part: odd values, pairings, faces, counts. -/
def BadIt (F : List Sx) : It0 → Prop
  | .bad => True
  | .pr p => p.2 ∉ F ∨ p.2.length ≠ p.1.length + 1 ∨ (p.1.any fun x => !decide (x ∈ p.2)) = true
theorem pairM_cons (F : List Sx) (p : Sx × Sx) (r : List It0) (met : List Sx) : pairM F (.pr p :: r) met = if p.2 ∉ F ∨ p.2.length ≠ p.1.length + 1 then false else if (p.1.any fun x => !decide (x ∈ p.2)) = true then false else if p.1 ∈ met ∨ p.2 ∈ met then false else pairM F r (addK (addK met p.1) p.2) := rfl
theorem odd_bad {F : List Sx} {it : It0} (h : BadIt F it) : ∀ (xs ys : List It0) (met : List Sx), pairM F (xs ++ it :: ys) met = false
  | [], ys, met => by
    cases it with
    | bad => rfl
    | pr p =>
      show pairM F (.pr p :: ys) met = false
      rw [pairM_cons]
      split
      · rfl
      · rename_i h1
        split
        · rfl
        · rename_i h2
          rcases h with h | h | h
          · exact absurd (.inl h) h1
          · exact absurd (.inr h) h1
          · exact absurd h h2
  | .bad :: xs, ys, met => rfl
  | .pr q :: xs, ys, met => by
    show pairM F (.pr q :: (xs ++ it :: ys)) met = false
    rw [pairM_cons, odd_bad h xs ys]
    simp
theorem odd_met {F : List Sx} {q : Sx × Sx} : ∀ (xs ys : List It0) (met : List Sx), q.1 ∈ met ∨ q.2 ∈ met → pairM F (xs ++ .pr q :: ys) met = false
  | [], ys, met, h => by
    show pairM F (.pr q :: ys) met = false
    rw [pairM_cons, if_pos h]
    simp
  | .bad :: xs, ys, met, h => rfl
  | .pr p :: xs, ys, met, h => by
    show pairM F (.pr p :: (xs ++ .pr q :: ys)) met = false
    rw [pairM_cons, odd_met xs ys _ (h.elim (fun h => .inl (mem_addK.mpr (.inl (mem_addK.mpr (.inl h))))) fun h => .inr (mem_addK.mpr (.inl (mem_addK.mpr (.inl h)))))]
    simp
theorem odd_twice {F : List Sx} {p q : Sx × Sx} (h : p.1 = q.1 ∨ p.1 = q.2 ∨ p.2 = q.1 ∨ p.2 = q.2) : ∀ (xs ys : List It0) (met : List Sx), .pr p ∈ xs → pairM F (xs ++ .pr q :: ys) met = false
  | .bad :: xs, ys, met, _ => rfl
  | .pr x :: xs, ys, met, hm => by
    show pairM F (.pr x :: (xs ++ .pr q :: ys)) met = false
    rw [pairM_cons]
    rcases List.mem_cons.mp hm with e | hm
    · injection e with e
      subst e
      have h1 : p.1 ∈ addK (addK met p.1) p.2 := mem_addK.mpr (.inl (mem_addK.mpr (.inr rfl)))
      have h2 : p.2 ∈ addK (addK met p.1) p.2 := mem_addK.mpr (.inr rfl)
      have h3 : q.1 ∈ addK (addK met p.1) p.2 ∨ q.2 ∈ addK (addK met p.1) p.2 := by
        rcases h with h | h | h | h
        · exact .inl (h ▸ h1)
        · exact .inr (h ▸ h1)
        · exact .inl (h ▸ h2)
        · exact .inr (h ▸ h2)
      rw [odd_met xs ys _ h3]
      simp
    · rw [odd_twice h xs ys _ hm]
      simp

/-! ### pairings -/
theorem firsts_sub : ∀ P : List (Sx × Sx), List.Sublist (P.map (·.1)) (P.flatMap fun p => [p.1, p.2])
  | [] => List.Sublist.slnil
  | p :: P => by
    rw [List.map_cons, List.flatMap_cons]
    exact List.Sublist.cons_cons _ (List.Sublist.cons _ (firsts_sub P))
theorem mt_pc {F : List Sx} {P : List (Sx × Sx)} (ok : FOk F) (h : Mt F P) : PC P := by
  have hn : (P.map (·.1)).Nodup := h.nd.sublist (firsts_sub P)
  refine ⟨fun p hp => ?_, hn, fun p hp => ?_, ?_⟩
  · have m := h.g p hp
    exact ⟨a7_good (ok.a7 _ m.a) (ok.ne _ m.a), a7_good (ok.a7 _ m.b) (ok.ne _ m.b), fun _ => ok.a7 _ m.a⟩
  · have := a7_len (ok.a7 _ (h.g p hp).b)
    omega
  · have := nd7_len hn fun s hs => by
      obtain ⟨p, hp, rfl⟩ := List.mem_map.mp hs
      exact ok.a7 _ (h.g p hp).a
    rw [List.length_map] at this
    omega
theorem mt_pairM {F : List Sx} : ∀ {P : List (Sx × Sx)} {met : List Sx}, Mt F P → (∀ p ∈ P, p.1 ∉ met ∧ p.2 ∉ met) → pairM F (prs P) met = true
  | [], _, _, _ => rfl
  | p :: P, met, h, hd => by
    have m := h.g p List.mem_cons_self
    obtain ⟨i, hi, ei⟩ := m.e
    have hn := h.nd
    rw [List.flatMap_cons] at hn
    have hn2 : (p.1 :: p.2 :: P.flatMap fun p => [p.1, p.2]).Nodup := hn
    rw [List.nodup_cons, List.nodup_cons] at hn2
    obtain ⟨n1, n2, n3⟩ := hn2
    have hd0 := hd p List.mem_cons_self
    show pairM F (.pr p :: prs P) met = true
    rw [pairM_cons, if_neg, if_neg, if_neg]
    · refine mt_pairM ⟨fun q hq => h.g q (List.mem_cons_of_mem _ hq), n3⟩ fun q hq => ?_
      have hq1 : q.1 ∈ P.flatMap fun p => [p.1, p.2] := List.mem_flatMap.mpr ⟨q, hq, by simp⟩
      have hq2 : q.2 ∈ P.flatMap fun p => [p.1, p.2] := List.mem_flatMap.mpr ⟨q, hq, by simp⟩
      have hdq := hd q (List.mem_cons_of_mem _ hq)
      constructor
      · intro z
        rcases mem_addK.mp z with z | z
        · rcases mem_addK.mp z with z | z
          · exact hdq.1 z
          · exact n1 (List.mem_cons_of_mem _ (z ▸ hq1))
        · exact n2 (z ▸ hq1)
      · intro z
        rcases mem_addK.mp z with z | z
        · rcases mem_addK.mp z with z | z
          · exact hdq.2 z
          · exact n1 (List.mem_cons_of_mem _ (z ▸ hq2))
        · exact n2 (z ▸ hq2)
    · rintro (z | z)
      · exact hd0.1 z
      · exact hd0.2 z
    · rw [Bool.not_eq_true, List.any_eq_false]
      intro x hx
      rw [ei] at hx
      have : x ∈ p.2 := (sublist_erase p.2 i).subset hx
      simp [this]
    · rintro (z | z)
      · exact z m.b
      · apply z
        rw [ei, List.length_eraseIdx_of_lt hi]
        omega

/-! ### faces -/
theorem mem_foldparts {p : Sx} : ∀ (r : List Int) (acc : List Sx), p ∈ r.foldl (fun acc v => acc ++ acc.map (· ++ [v])) acc ↔ ∃ a ∈ acc, ∃ q, q.Sublist r ∧ p = a ++ q
  | [], acc => by
    constructor
    · intro h
      exact ⟨p, h, [], List.Sublist.slnil, by simp⟩
    · rintro ⟨a, ha, q, hq, rfl⟩
      have : q = [] := List.eq_nil_of_sublist_nil hq
      subst this
      simpa using ha
  | v :: r, acc => by
    rw [List.foldl_cons, mem_foldparts r]
    constructor
    · rintro ⟨a, ha, q, hq, rfl⟩
      rcases List.mem_append.mp ha with h | h
      · exact ⟨a, h, q, List.Sublist.cons _ hq, rfl⟩
      · obtain ⟨a0, h0, rfl⟩ := List.mem_map.mp h
        exact ⟨a0, h0, v :: q, List.Sublist.cons_cons _ hq, by simp⟩
    · rintro ⟨a, ha, q, hq, rfl⟩
      cases hq with
      | cons _ hq => exact ⟨a, List.mem_append.mpr (.inl ha), q, hq, rfl⟩
      | cons_cons _ hq =>
        rename_i q'
        exact ⟨a ++ [v], List.mem_append.mpr (.inr (List.mem_map.mpr ⟨a, ha, rfl⟩)), q', hq, by simp⟩
theorem mem_parts0 {s p : Sx} : p ∈ parts0 s ↔ p.Sublist s := by
  unfold parts0
  rw [mem_foldparts]
  constructor
  · rintro ⟨a, ha, q, hq, rfl⟩
    rw [List.mem_singleton.mp ha]
    exact hq
  · intro h
    exact ⟨[], List.mem_singleton.mpr rfl, p, h, rfl⟩
theorem parts0_head (s : Sx) : ∃ t, parts0 s = [] :: t := by
  have gen : ∀ (r : List Int) (t : List Sx), ∃ t', r.foldl (fun acc v => acc ++ acc.map (· ++ [v])) ([] :: t) = [] :: t' := by
    intro r
    induction r with
    | nil => intro t; exact ⟨t, rfl⟩
    | cons v r ih => intro t; exact ih _
  exact gen s []
theorem mem_parts {s p : Sx} (h : s ∈ all7) : p ∈ parts s ↔ p ≠ [] ∧ p.Sublist s := by
  obtain ⟨t, e⟩ := parts0_head s
  have e2 : parts s = t := by
    unfold parts
    rw [e]
    rfl
  constructor
  · intro hp
    refine ⟨(a7_parts h hp).2, mem_parts0.mp ?_⟩
    rw [e, ← e2]
    exact List.mem_cons_of_mem _ hp
  · rintro ⟨hn, hs⟩
    have := mem_parts0.mpr hs
    rw [e] at this
    rcases List.mem_cons.mp this with z | z
    · exact absurd z hn
    · rw [e2]
      exact z
theorem parts_trans {s t p : Sx} (ht : t ∈ all7) (h1 : s ∈ parts t) (h2 : p ∈ parts s) : p ∈ parts t := by
  have hs := (a7_parts ht h1).1
  have a := (mem_parts ht).mp h1
  have b := (mem_parts hs).mp h2
  exact (mem_parts ht).mpr ⟨b.1, b.2.trans a.2⟩
theorem parts_self {s : Sx} (h : s ∈ all7) (hn : s ≠ []) : s ∈ parts s := (mem_parts h).mpr ⟨hn, List.Sublist.refl _⟩
theorem mem_gen {ts : List Sx} (h7 : ∀ s ∈ ts, s ∈ all7) {s : Sx} : s ∈ gen ts ↔ ∃ t ∈ ts, s ∈ parts t := by
  have main : ∀ (r F : List Sx), (∀ t ∈ r, t ∈ all7) → (∀ t ∈ F, t ∈ all7 ∧ ∀ p ∈ parts t, p ∈ F) → (s ∈ r.foldl genStep F ↔ s ∈ F ∨ ∃ t ∈ r, s ∈ parts t) := by
    intro r
    induction r with
    | nil => intro F _ _; simp
    | cons a r ih =>
      intro F hr hF
      have ha := hr a List.mem_cons_self
      have hst : ∀ x, x ∈ genStep F a ↔ x ∈ F ∨ x ∈ parts a := by
        intro x
        unfold genStep
        split
        · rename_i haF
          exact ⟨.inl, fun h => h.elim id fun h => (hF a haF).2 x h⟩
        · exact mem_addAll
      rw [List.foldl_cons, ih (genStep F a) (fun t ht => hr t (List.mem_cons_of_mem _ ht)) ?_, hst]
      · constructor
        · rintro ((h | h) | ⟨t, ht, h⟩)
          · exact .inl h
          · exact .inr ⟨a, List.mem_cons_self, h⟩
          · exact .inr ⟨t, List.mem_cons_of_mem _ ht, h⟩
        · rintro (h | ⟨t, ht, h⟩)
          · exact .inl (.inl h)
          · rcases List.mem_cons.mp ht with rfl | ht
            · exact .inl (.inr h)
            · exact .inr ⟨t, ht, h⟩
      · intro t ht
        rcases (hst t).mp ht with h | h
        · exact ⟨(hF t h).1, fun p hp => (hst p).mpr (.inl ((hF t h).2 p hp))⟩
        · exact ⟨(a7_parts ha h).1, fun p hp => (hst p).mpr (.inr (parts_trans ha h hp))⟩
  have := main ts [] h7 (fun t ht => by cases ht)
  unfold gen
  rw [this]
  simp
theorem gen_clo {ts : List Sx} (h7 : ∀ s ∈ ts, s ∈ all7) : Clo (gen ts) := fun b hb i hi h1 => by
  obtain ⟨t, ht, hp⟩ := (mem_gen h7).mp hb
  have h := (mem_parts (h7 t ht)).mp hp
  refine (mem_gen h7).mpr ⟨t, ht, (mem_parts (h7 t ht)).mpr ⟨fun z => ?_, (sublist_erase b i).trans h.2⟩⟩
  have := congrArg List.length z
  rw [List.length_eraseIdx_of_lt hi] at this
  simp at this
  omega
theorem lawFaces_perm (ts : List Sx) : (lawFaces ts).Perm (lawMet ts) := by
  unfold lawFaces sortL
  have h := (List.mergeSort_perm ((lawMet ts).map fun s => ((s.length : Int), s)) (PySem.W.dataLe false kL.enc)).map (·.2)
  rw [List.map_map] at h
  have e : (lawMet ts).map ((fun x : Int × Sx => x.2) ∘ fun s => ((s.length : Int), s)) = lawMet ts := List.map_id' _
  rw [e] at h
  exact h
theorem law_facts {ts : List Sx} (h : Sxs ts) : FOk (gen ts) ∧ Clo (gen ts) ∧ FOk (lawFaces ts) ∧ ∀ s, s ∈ lawFaces ts ↔ s ∈ gen ts := by
  have h7 : ∀ s ∈ ts, s ∈ all7 := fun s hs => (h s hs).1
  have pm := lawFaces_perm ts
  have okM := lawMet_ok h7
  refine ⟨gen_ok h7, gen_clo h7, ⟨pm.nodup_iff.mpr okM.nd, fun s hs => okM.a7 s (pm.mem_iff.mp hs), fun s hs => okM.ne s (pm.mem_iff.mp hs)⟩, fun s => ?_⟩
  rw [pm.mem_iff, mem_lawMet, mem_gen h7]

/-! ### counts -/
def cnt (F : List Sx) (i : Nat) : Nat := (F.filter fun s => decide (s.length - 1 = i)).length
theorem bumps_at (d : Int) : ∀ (r : List Sx) (c : List Int) (i : Nat), (r.foldl (fun c s => bump c s d) c)[i]? = (c[i]?).map fun x => x + d * (cnt r i : Int)
  | [], c, i => by
    show c[i]? = _
    cases c[i]? with
    | none => rfl
    | some x => simp [cnt]
  | s :: r, c, i => by
    rw [List.foldl_cons, bumps_at d r]
    unfold bump cnt
    rw [List.getElem?_modify, List.filter_cons]
    by_cases e : s.length - 1 = i
    · rw [decide_eq_true e, if_pos rfl]
      cases c[i]? with
      | none => rfl
      | some x =>
        show some ((if s.length - 1 = i then x + d else x) + d * _) = some (x + d * _)
        rw [if_pos e, List.length_cons, Int.natCast_add, Int.mul_add]
        congr 1
        simp
        omega
    · rw [decide_eq_false e, if_neg (by simp)]
      cases c[i]? with
      | none => rfl
      | some x =>
        show some ((if s.length - 1 = i then x + d else x) + d * _) = some (x + d * _)
        rw [if_neg e]
theorem counts_at (F : List Sx) (i : Nat) : (counts F)[i]? = if i < most F then some (cnt F i : Int) else none := by
  unfold counts
  rw [bumps_at, List.getElem?_replicate]
  split
  · simp
  · rfl
theorem nodup_len {α : Type} [DecidableEq α] {l m : List α} (hl : l.Nodup) (hm : m.Nodup) (h : ∀ x, x ∈ l ↔ x ∈ m) : l.length = m.length :=
  Nat.le_antisymm (nodup_le hl fun x hx => (h x).mp hx) (nodup_le hm fun x hx => (h x).mpr hx)
theorem filt_same {F L : List Sx} (hF : F.Nodup) (hL : L.Nodup) (h : ∀ s, s ∈ L ↔ s ∈ F) (p : Sx → Bool) : (F.filter p).length = (L.filter p).length :=
  nodup_len (hF.sublist List.filter_sublist) (hL.sublist List.filter_sublist) fun x => by rw [List.mem_filter, List.mem_filter, h]
theorem most_same {F L : List Sx} (h : ∀ s, s ∈ L ↔ s ∈ F) : most L = most F := by
  have le : ∀ {A B : List Sx}, (∀ s, s ∈ A → s ∈ B) → most A ≤ most B := fun {A B} h => by
    rcases most_in (F := A) with e | e
    · omega
    · obtain ⟨s, hs, e2⟩ := List.mem_map.mp e
      rw [← e2]
      exact most_ge _ (List.mem_map.mpr ⟨s, h s hs, rfl⟩)
  exact Nat.le_antisymm (le fun s => (h s).mp) (le fun s => (h s).mpr)
theorem counts_congr {F L : List Sx} (hF : F.Nodup) (hL : L.Nodup) (h : ∀ s, s ∈ L ↔ s ∈ F) : counts F = counts L := by
  apply List.ext_getElem?
  intro i
  rw [counts_at, counts_at, most_same h]
  unfold cnt
  rw [filt_same hF hL h]
theorem counts_same {F L : List Sx} (hF : FOk F) (hL : FOk L) (h : ∀ s, s ∈ L ↔ s ∈ F) : counts F = (List.range (most L)).map (fun d => ((L.filter fun s => decide (s.length = d + 1)).length : Int)) ∧ most L = most F := by
  refine ⟨?_, most_same h⟩
  rw [counts_congr hF.nd hL.nd h]
  apply List.ext_getElem?
  intro i
  rw [counts_at, List.getElem?_map]
  split
  · rename_i hi
    rw [List.getElem?_range hi]
    show some _ = some _
    congr 2
    unfold cnt
    congr 1
    refine List.filter_congr fun s hs => ?_
    have : 0 < s.length := List.length_pos_iff.mpr (hL.ne s hs)
    by_cases e : s.length = i + 1
    · rw [decide_eq_true e, decide_eq_true (by omega)]
    · rw [decide_eq_false e, decide_eq_false (by omega)]
  · rename_i hi
    rw [List.getElem?_eq_none (by rw [List.length_range]; omega)]
    rfl
end Sh
set_option Elab.async false
set_option linter.all false
set_option maxRecDepth 100000
set_option maxHeartbeats 4000000
namespace Sh
open PySem PySem.Spec PyProof.Rows L2 RZ
/-! The plain law, second part: both searches for rings find the same. -/
/-- pairs each of which has a next one among them -/
def Trap (P S : List (Sx × Sx)) : Prop := S ≠ [] ∧ (∀ p ∈ S, p ∈ P) ∧ ∀ p ∈ S, ∃ d ∈ facesOf p.2, d ≠ p.1 ∧ d ∈ S.map (·.1)
theorem free_iff {L : List (Sx × Sx)} {p : Sx × Sx} : freeB L p = false ↔ ∃ d ∈ facesOf p.2, d ≠ p.1 ∧ d ∈ L.map (·.1) := by
  unfold freeB
  rw [List.all_eq_false]
  constructor
  · rintro ⟨d, hd, h⟩
    refine ⟨d, hd, ?_⟩
    simp only [Bool.or_eq_true, decide_eq_true_eq, Bool.not_eq_true', decide_eq_false_iff_not, not_or, Decidable.not_not] at h
    exact h
  · rintro ⟨d, hd, h1, h2⟩
    refine ⟨d, hd, ?_⟩
    simp only [Bool.or_eq_true, decide_eq_true_eq, Bool.not_eq_true', decide_eq_false_iff_not, not_or, Decidable.not_not]
    exact ⟨h1, h2⟩
theorem ring_trap : ∀ (n : Nat) (L : List (Sx × Sx)), ringF n L = true → ∃ S, Trap L S
  | 0, L, h => by cases h
  | n + 1, L, h => by
    have h : (if L = [] then false else if L.filter (freeB L) = [] then true else ringF n (L.filter fun p => !freeB L p)) = true := h
    split at h
    · cases h
    · rename_i h1
      split at h
      · rename_i h2
        refine ⟨L, h1, fun p hp => hp, fun p hp => free_iff.mp ?_⟩
        have := List.filter_eq_nil_iff.mp h2 p hp
        simpa using this
      · obtain ⟨S, a, b, c⟩ := ring_trap n _ h
        exact ⟨S, a, fun p hp => (List.mem_filter.mp (b p hp)).1, c⟩
theorem trap_ring : ∀ (n : Nat) (L S : List (Sx × Sx)), Trap L S → L.length ≤ n → ringF n L = true
  | 0, L, S, h, hn => by
    have hL : L = [] := List.eq_nil_of_length_eq_zero (by omega)
    obtain ⟨p, hp⟩ := List.exists_mem_of_ne_nil S h.1
    have := h.2.1 p hp
    rw [hL] at this
    cases this
  | n + 1, L, S, h, hn => by
    obtain ⟨p, hp⟩ := List.exists_mem_of_ne_nil S h.1
    have hpL := h.2.1 p hp
    show (if L = [] then false else if L.filter (freeB L) = [] then true else ringF n (L.filter fun p => !freeB L p)) = true
    rw [if_neg (fun z => by rw [z] at hpL; cases hpL)]
    split
    · rfl
    · rename_i h2
      have nofree : ∀ q ∈ S, freeB L q = false := fun q hq => by
        obtain ⟨d, hd, h3, h4⟩ := h.2.2 q hq
        refine free_iff.mpr ⟨d, hd, h3, ?_⟩
        obtain ⟨x, hx, e⟩ := List.mem_map.mp h4
        exact List.mem_map.mpr ⟨x, h.2.1 x hx, e⟩
      refine trap_ring n _ S ⟨h.1, fun q hq => List.mem_filter.mpr ⟨h.2.1 q hq, by rw [nofree q hq]; rfl⟩, h.2.2⟩ ?_
      have : (L.filter fun p => !freeB L p).length < L.length := by
        obtain ⟨q, hq⟩ := List.exists_mem_of_ne_nil _ h2
        have hq := List.mem_filter.mp hq
        exact List.length_filter_lt_length_iff_exists.mpr ⟨q, hq.1, by rw [hq.2]; simp⟩
      omega
theorem ring_iff (P : List (Sx × Sx)) : ring P = true ↔ ∃ S, Trap P S := ⟨ring_trap _ P, fun ⟨S, h⟩ => trap_ring _ P S h (Nat.le_refl _)⟩

/-! ### the search turn by turn -/
def Step (P : List (Sx × Sx)) (a d : Sx) : Prop := d ∈ facesOf (up P a) ∧ d ≠ a ∧ d ∈ P.map (·.1)
inductive Path (P : List (Sx × Sx)) : Sx → Sx → Prop
  | one {a b : Sx} (h : Step P a b) : Path P a b
  | cons {a b c : Sx} (h : Step P a b) (t : Path P b c) : Path P a c
theorem Path.trans {P : List (Sx × Sx)} {a b c : Sx} (h : Path P a b) (t : Path P b c) : Path P a c := by
  induction h with
  | one h => exact .cons h t
  | cons h _ ih => exact .cons h (ih t)
theorem mem_more {P : List (Sx × Sx)} {met here : List Sx} {d : Sx} : d ∈ moreM P met here ↔ ∃ a ∈ here, Step P a d ∧ d ∉ met := by
  unfold moreM
  rw [List.mem_flatMap]
  constructor
  · rintro ⟨a, ha, h⟩
    have h := List.mem_filter.mp h
    have h2 := h.2
    simp only [Bool.and_eq_true, Bool.not_eq_true', decide_eq_false_iff_not, decide_eq_true_eq] at h2
    exact ⟨a, ha, ⟨h.1, h2.1, h2.2.1⟩, h2.2.2⟩
  · rintro ⟨a, ha, ⟨h1, h2, h3⟩, h4⟩
    refine ⟨a, ha, List.mem_filter.mpr ⟨h1, ?_⟩⟩
    simp only [Bool.and_eq_true, Bool.not_eq_true', decide_eq_false_iff_not, decide_eq_true_eq]
    exact ⟨h2, h3, h4⟩
theorem bfs_path {P : List (Sx × Sx)} {f : Sx} : ∀ (n : Nat) (met here : List Sx), (∀ s ∈ here, s = f ∨ Path P f s) → bfs P f n met here = true → Path P f f
  | 0, _, _, _, h => by cases h
  | n + 1, met, here, hh, h => by
    have h : (if f ∈ moreM P met here then true else bfs P f n (met ++ moreM P met here) (moreM P met here)) = true := h
    have hm : ∀ s ∈ moreM P met here, Path P f s := fun s hs => by
      obtain ⟨a, ha, hst, _⟩ := mem_more.mp hs
      rcases hh a ha with rfl | hp
      · exact .one hst
      · exact hp.trans (.one hst)
    split at h
    · rename_i h1
      exact hm f h1
    · exact bfs_path n _ _ (fun s hs => .inr (hm s hs)) h
/-- keys not yet met -/
def unmet (P : List (Sx × Sx)) (met : List Sx) : Nat := ((P.map (·.1)).filter fun s => !decide (s ∈ met)).length
theorem filter_lt {α : Type} {p q : α → Bool} : ∀ {l : List α}, (∀ x ∈ l, p x = true → q x = true) → (∃ x ∈ l, q x = true ∧ p x = false) → (l.filter p).length < (l.filter q).length
  | [], _, ⟨x, hx, _⟩ => by cases hx
  | a :: l, h, ⟨x, hx, h1, h2⟩ => by
    have le : (l.filter p).length ≤ (l.filter q).length := by
      have : ∀ l : List α, (∀ x ∈ l, p x = true → q x = true) → (l.filter p).length ≤ (l.filter q).length := by
        intro l
        induction l with
        | nil => intro _; exact Nat.le_refl _
        | cons b l ih =>
          intro h
          have ih := ih fun x hx => h x (List.mem_cons_of_mem _ hx)
          cases hp : p b with
          | true =>
            rw [List.filter_cons_of_pos hp, List.filter_cons_of_pos (h b List.mem_cons_self hp)]
            exact Nat.succ_le_succ ih
          | false =>
            rw [List.filter_cons_of_neg (by rw [hp]; exact Bool.false_ne_true), List.filter_cons]
            split
            · exact Nat.le_succ_of_le ih
            · exact ih
      exact this l fun x hx => h x (List.mem_cons_of_mem _ hx)
    rcases List.mem_cons.mp hx with rfl | hx
    · rw [List.filter_cons_of_neg (by rw [h2]; exact Bool.false_ne_true), List.filter_cons_of_pos h1]
      exact Nat.lt_succ_of_le le
    · have ih := filter_lt (p := p) (q := q) (l := l) (fun x hx => h x (List.mem_cons_of_mem _ hx)) ⟨x, hx, h1, h2⟩
      cases hp : p a with
      | true =>
        rw [List.filter_cons_of_pos hp, List.filter_cons_of_pos (h a List.mem_cons_self hp)]
        exact Nat.succ_lt_succ ih
      | false =>
        rw [List.filter_cons_of_neg (by rw [hp]; exact Bool.false_ne_true), List.filter_cons]
        split
        · exact Nat.lt_succ_of_lt ih
        · exact ih
theorem bfs_closed {P : List (Sx × Sx)} {f : Sx} : ∀ (n : Nat) (met here : List Sx), f ∉ met → (∀ s, s = f ∨ s ∈ met → s ∉ here → ∀ d, Step P s d → d ∈ met) → unmet P met < n → bfs P f n met here = false →
    ∃ M : List Sx, f ∉ M ∧ ∀ s, s = f ∨ s ∈ M → ∀ d, Step P s d → d ∈ M
  | 0, _, _, _, _, hu, _ => by omega
  | n + 1, met, here, hf, hi, hu, h => by
    have h : (if f ∈ moreM P met here then true else bfs P f n (met ++ moreM P met here) (moreM P met here)) = false := h
    split at h
    · cases h
    · rename_i h1
      by_cases hm : moreM P met here = []
      · refine ⟨met, hf, fun s hs d hd => ?_⟩
        by_cases hh : s ∈ here
        · refine Decidable.byContradiction fun z => ?_
          have := mem_more.mpr ⟨s, hh, hd, z⟩
          rw [hm] at this
          cases this
        · exact hi s hs hh d hd
      · refine bfs_closed n _ _ (fun z => ?_) (fun s hs hn d hd => ?_) ?_ h
        · rcases List.mem_append.mp z with z | z
          · exact hf z
          · exact h1 z
        · have hs' : s = f ∨ s ∈ met := by
            rcases hs with hs | hs
            · exact .inl hs
            · rcases List.mem_append.mp hs with hs | hs
              · exact .inr hs
              · exact absurd hs hn
          by_cases hh : s ∈ here
          · by_cases hdm : d ∈ met
            · exact List.mem_append.mpr (.inl hdm)
            · exact List.mem_append.mpr (.inr (mem_more.mpr ⟨s, hh, hd, hdm⟩))
          · exact List.mem_append.mpr (.inl (hi s hs' hh d hd))
        · have : unmet P (met ++ moreM P met here) < unmet P met := by
            refine filter_lt (fun x hx h => ?_) ?_
            · simp only [Bool.not_eq_true', decide_eq_false_iff_not] at h ⊢
              exact fun z => h (List.mem_append.mpr (.inl z))
            · obtain ⟨d, hd⟩ := List.exists_mem_of_ne_nil _ hm
              obtain ⟨a, _, hst, hnm⟩ := mem_more.mp hd
              refine ⟨d, hst.2.2, ?_, ?_⟩
              · simp only [Bool.not_eq_true', decide_eq_false_iff_not]
                exact hnm
              · rw [decide_eq_true (List.mem_append.mpr (.inr hd))]
                rfl
          omega
theorem path_bfs {P : List (Sx × Sx)} {f : Sx} (hp : Path P f f) : bfs P f (P.length + 1) [] [f] = true := by
  cases h : bfs P f (P.length + 1) [] [f] with
  | true => rfl
  | false =>
    have hu : unmet P [] < P.length + 1 := by
      unfold unmet
      have := List.length_filter_le (fun s : Sx => !decide (s ∈ ([] : List Sx))) (P.map (·.1))
      rw [List.length_map] at this
      omega
    obtain ⟨M, h1, h2⟩ := bfs_closed _ _ _ (by simp) (fun s hs hn => by
      rcases hs with rfl | hs
      · exact absurd (List.mem_singleton.mpr rfl) hn
      · cases hs) hu h
    have key : ∀ a b, Path P a b → (a = f ∨ a ∈ M) → b ∈ M := by
      intro a b hab
      induction hab with
      | one h => intro ha; exact h2 _ ha _ h
      | cons h _ ih => intro ha; exact ih (.inr (h2 _ ha _ h))
    exact absurd (key f f hp (.inl rfl)) h1
theorem up_eq {P : List (Sx × Sx)} (hn : (P.map (·.1)).Nodup) {p : Sx × Sx} (hp : p ∈ P) : up P p.1 = p.2 := by
  have h1 := up_mem (P := P) (s := p.1) (List.mem_map.mpr ⟨p, hp, rfl⟩)
  have := first_inj hn h1 hp rfl
  rw [← this]
theorem path_trap {P : List (Sx × Sx)} (hn : (P.map (·.1)).Nodup) {f : Sx} (hf : f ∈ P.map (·.1)) (h : Path P f f) : ∃ S, Trap P S := by
  classical
  refine ⟨P.filter fun p => decide (Path P f p.1 ∧ Path P p.1 f), fun z => ?_, fun p hp => (List.mem_filter.mp hp).1, fun p hp => ?_⟩
  · obtain ⟨p, hp, e⟩ := List.mem_map.mp hf
    have := List.filter_eq_nil_iff.mp z p hp
    rw [e] at this
    exact this (decide_eq_true ⟨h, h⟩)
  · have hp := List.mem_filter.mp hp
    obtain ⟨h1, h2⟩ := of_decide_eq_true hp.2
    have step : ∃ d, Step P p.1 d ∧ Path P d f := by
      cases h2 with
      | one hs => exact ⟨f, hs, h⟩
      | cons hs t => exact ⟨_, hs, t⟩
    obtain ⟨d, hs, hd⟩ := step
    refine ⟨d, by rw [← up_eq hn hp.1]; exact hs.1, hs.2.1, ?_⟩
    obtain ⟨q, hq, e⟩ := List.mem_map.mp hs.2.2
    exact List.mem_map.mpr ⟨q, List.mem_filter.mpr ⟨hq, decide_eq_true (by rw [e]; exact ⟨h1.trans (.one hs), hd⟩)⟩, e⟩
theorem trap_path {P S : List (Sx × Sx)} (hn : (P.map (·.1)).Nodup) (hS : Trap P S) : ∃ f ∈ P.map (·.1), Path P f f := by
  classical
  have nxt : ∀ s ∈ S.map (·.1), ∃ t ∈ S.map (·.1), Step P s t := fun s hs => by
    obtain ⟨p, hp, rfl⟩ := List.mem_map.mp hs
    obtain ⟨d, h1, h2, h3⟩ := hS.2.2 p hp
    have hpP := hS.2.1 p hp
    refine ⟨d, h3, by rw [up_eq hn hpP]; exact h1, h2, ?_⟩
    obtain ⟨q, hq, e⟩ := List.mem_map.mp h3
    exact List.mem_map.mpr ⟨q, hS.2.1 q hq, e⟩
  have main : ∀ (n : Nat) (s : Sx), s ∈ S.map (·.1) → ((P.map (·.1)).filter fun t => decide (Path P s t)).length ≤ n → ∃ f ∈ P.map (·.1), Path P f f := by
    intro n
    induction n with
    | zero =>
      intro s hs hl
      obtain ⟨t, _, hst⟩ := nxt s hs
      have : t ∈ (P.map (·.1)).filter fun t => decide (Path P s t) := List.mem_filter.mpr ⟨hst.2.2, decide_eq_true (.one hst)⟩
      have := List.length_pos_of_mem this
      omega
    | succ n ih =>
      intro s hs hl
      obtain ⟨t, ht, hst⟩ := nxt s hs
      by_cases htt : Path P t t
      · exact ⟨t, hst.2.2, htt⟩
      · refine ih t ht ?_
        have : ((P.map (·.1)).filter fun u => decide (Path P t u)).length < ((P.map (·.1)).filter fun u => decide (Path P s u)).length :=
          filter_lt (fun x _ h => decide_eq_true (.cons hst (of_decide_eq_true h))) ⟨t, hst.2.2, decide_eq_true (.one hst), decide_eq_false htt⟩
        omega
  obtain ⟨p, hp⟩ := List.exists_mem_of_ne_nil S hS.1
  exact main _ p.1 (List.mem_map.mpr ⟨p, hp, rfl⟩) (Nat.le_refl _)
theorem ring_rings {P : List (Sx × Sx)} (hn : (P.map (·.1)).Nodup) : ring P = rings P := by
  have a : ring P = true ↔ rings P = true := by
    rw [ring_iff]
    unfold rings
    rw [List.any_eq_true]
    constructor
    · rintro ⟨S, hS⟩
      obtain ⟨f, hf, hp⟩ := trap_path hn hS
      obtain ⟨p, hpP, rfl⟩ := List.mem_map.mp hf
      exact ⟨p, hpP, path_bfs hp⟩
    · rintro ⟨p, hpP, h⟩
      exact path_trap hn (List.mem_map.mpr ⟨p, hpP, rfl⟩) (bfs_path _ _ _ (fun s hs => .inl (List.mem_singleton.mp hs)) h)
  cases h1 : ring P <;> cases h2 : rings P <;> simp_all
theorem mt_lp {F : List Sx} {P : List (Sx × Sx)} (ok : FOk F) (h : Mt F P) : lpM F P = !rings P := by
  unfold lpM
  rw [mt_pairM h (fun p _ => by simp), ring_rings (mt_pc ok h).rc.nd, Bool.true_and]
end Sh
set_option Elab.async false
set_option linter.all false
set_option maxRecDepth 100000
set_option maxHeartbeats 4000000
namespace Sh
open PySem PySem.Spec PyProof.Rows L2 RZ
/-! The plain law, third part: the rows of the search stay short. -/
theorem u35 : ∀ k, k < 8 → (all7.filter fun s => decide (s.length = k)).length ≤ 35 := by decide +kernel
theorem cube3 : ∀ d, d < 36 → d ^ 3 ≤ 3 ^ d := by decide +kernel
theorem faces7_nd : ∀ s ∈ all7, (facesOf s).Nodup := by decide +kernel
theorem flat_le {α β : Type} {g : α → List β} {d : Nat} : ∀ {l : List α}, (∀ a ∈ l, (g a).length ≤ d) → (l.flatMap g).length ≤ l.length * d
  | [], _ => by simp
  | a :: l, h => by
    rw [List.flatMap_cons, List.length_append, List.length_cons, Nat.succ_mul]
    have h1 := h a List.mem_cons_self
    have h2 := flat_le (g := g) (d := d) (l := l) fun x hx => h x (List.mem_cons_of_mem _ hx)
    omega
theorem filter_two {α : Type} {p q r : α → Bool} : ∀ {l : List α}, (∀ x ∈ l, r x = (p x || q x)) → (∀ x ∈ l, p x = true → q x = false) → (l.filter r).length = (l.filter p).length + (l.filter q).length
  | [], _, _ => rfl
  | a :: l, h1, h2 => by
    have ih := filter_two (p := p) (q := q) (r := r) (l := l) (fun x hx => h1 x (List.mem_cons_of_mem _ hx)) fun x hx => h2 x (List.mem_cons_of_mem _ hx)
    have e := h1 a List.mem_cons_self
    have e2 := h2 a List.mem_cons_self
    rw [List.filter_cons, List.filter_cons, List.filter_cons, e]
    cases hp : p a with
    | true =>
      rw [e2 hp]
      simp [ih]
      omega
    | false =>
      cases hq : q a with
      | true =>
        simp [ih]
        omega
      | false => simp [ih]
theorem bfs_short {F : List Sx} {P : List (Sx × Sx)} (ok : FOk F) (h : Mt F P) {k : Nat} (hk : k < 8) : ∀ (n : Nat) (met here : List Sx),
    (∀ s ∈ here, s ∈ P.map (·.1) ∧ s.length = k) → (∀ s ∈ met, s ∈ all7.filter fun s => decide (s.length = k)) →
    here.length ^ 3 ≤ 3 ^ ((all7.filter fun s => decide (s.length = k)).filter fun s => decide (s ∈ met)).length →
    met.length ≤ 450000 * ((all7.filter fun s => decide (s.length = k)).filter fun s => decide (s ∈ met)).length → bfsOk P n met here
  | 0, _, _, _, _, _, _ => trivial
  | n + 1, met, here, hh, hm, h3, hl => by
    have hU := u35 k hk
    generalize hUU : (all7.filter fun s => decide (s.length = k)) = U at *
    have inU : ∀ s, s ∈ all7 → s.length = k → s ∈ U := fun s h1 h2 => by
      rw [← hUU]
      exact List.mem_filter.mpr ⟨h1, decide_eq_true h2⟩
    -- what a step gives
    have hst : ∀ a ∈ here, ∀ d, Step P a d → d ∈ U ∧ d.length = k ∧ (up P a) ∈ all7 := fun a ha d hd => by
      obtain ⟨hak, hal⟩ := hh a ha
      have hup := up_mem hak
      have m := h.g _ hup
      obtain ⟨i, hi, ei⟩ := m.e
      have hb7 := ok.a7 _ m.b
      have hlen : (up P a).length = k + 1 := by
        have e : a = (up P a).eraseIdx i := ei
        have hi' : i < (up P a).length := hi
        have := congrArg List.length e
        rw [List.length_eraseIdx_of_lt hi'] at this
        omega
      obtain ⟨j, hj, ej⟩ := List.mem_map.mp hd.1
      have hj := List.mem_range.mp hj
      have hdl : d.length = k := by
        rw [← ej, List.length_eraseIdx_of_lt hj]
        omega
      exact ⟨inU d (by rw [← ej]; exact a7_erase hb7 hj) hdl, hdl, hb7⟩
    have hmore : ∀ d ∈ moreM P met here, d ∈ U ∧ d.length = k ∧ d ∈ P.map (·.1) ∧ d ∉ met := fun d hd => by
      obtain ⟨a, ha, hs, hn⟩ := mem_more.mp hd
      obtain ⟨h1, h2, _⟩ := hst a ha d hs
      exact ⟨h1, h2, hs.2.2, hn⟩
    have hlen : (moreM P met here).length ≤ here.length * (U.filter fun s => decide (s ∈ moreM P met here)).length := by
      conv => lhs; unfold moreM
      refine flat_le fun a ha => ?_
      have hnd : (facesOf (up P a)).Nodup := by
        have hup := up_mem (hh a ha).1
        exact faces7_nd _ (ok.a7 _ (h.g _ hup).b)
      refine nodup_le (hnd.sublist List.filter_sublist) fun x hx => ?_
      have hxm : x ∈ moreM P met here := List.mem_flatMap.mpr ⟨a, ha, hx⟩
      exact List.mem_filter.mpr ⟨(hmore x hxm).1, decide_eq_true hxm⟩
    have hc : (U.filter fun s => decide (s ∈ met ++ moreM P met here)).length = (U.filter fun s => decide (s ∈ met)).length + (U.filter fun s => decide (s ∈ moreM P met here)).length := by
      refine filter_two (fun x hx => ?_) fun x hx hp => ?_
      · by_cases a1 : x ∈ met <;> by_cases a2 : x ∈ moreM P met here <;> simp [a1, a2]
      · have := of_decide_eq_true hp
        exact decide_eq_false fun z => (hmore x z).2.2.2 this
    have hc35 : (U.filter fun s => decide (s ∈ met ++ moreM P met here)).length ≤ 35 := Nat.le_trans (List.length_filter_le _ _) hU
    generalize (U.filter fun s => decide (s ∈ moreM P met here)).length = d at hlen hc
    generalize (U.filter fun s => decide (s ∈ met)).length = c at h3 hl hc
    have hd3 := cube3 d (by omega)
    have hm3 : (moreM P met here).length ^ 3 ≤ 3 ^ (c + d) := by
      refine Nat.le_trans (Nat.pow_le_pow_left hlen 3) ?_
      rw [Nat.mul_pow, Nat.pow_add]
      exact Nat.mul_le_mul h3 hd3
    have hmb : (moreM P met here).length ≤ 450000 := by
      refine Decidable.byContradiction fun z => ?_
      have h1 : 450001 ^ 3 ≤ (moreM P met here).length ^ 3 := Nat.pow_le_pow_left (by omega) 3
      have h2 : 3 ^ (c + d) ≤ 3 ^ 35 := Nat.pow_le_pow_right (by decide) (by omega)
      have h3 : (450001 : Nat) ^ 3 ≤ 3 ^ 35 := Nat.le_trans h1 (Nat.le_trans hm3 h2)
      exact absurd h3 (by decide)
    have hml : met.length + (moreM P met here).length ≤ 450000 * (c + d) := by
      rw [Nat.mul_add]
      by_cases hd0 : d = 0
      · rw [hd0, Nat.mul_zero] at hlen
        omega
      · have : 450000 * 1 ≤ 450000 * d := Nat.mul_le_mul_left _ (by omega)
        omega
    refine ⟨by omega, by omega, ?_⟩
    refine bfs_short ok h hk n _ _ (fun s hs => ⟨(hmore s hs).2.2.1, (hmore s hs).2.1⟩) (fun s hs => ?_) ?_ ?_
    · rw [hUU]
      rcases List.mem_append.mp hs with hs | hs
      · exact hm s hs
      · exact (hmore s hs).1
    · rw [hUU, hc]
      exact hm3
    · rw [hUU, hc, List.length_append]
      exact hml
theorem mt_bfs {F : List Sx} {P : List (Sx × Sx)} (ok : FOk F) (h : Mt F P) : ∀ p ∈ P, bfsOk P (P.length + 1) [] [p.1] := fun p hp => by
  have hl := a7_len (ok.a7 _ (h.g p hp).a)
  refine bfs_short ok h (k := p.1.length) (by omega) _ _ _ (fun s hs => ?_) (fun s hs => by cases hs) ?_ (Nat.zero_le _)
  · rw [List.mem_singleton.mp hs]
    exact ⟨List.mem_map.mpr ⟨p, hp, rfl⟩, rfl⟩
  · show 1 ^ 3 ≤ _
    exact Nat.one_le_pow _ _ (by decide)
end Sh
set_option Elab.async false
set_option linter.all false
set_option maxRecDepth 100000
set_option maxHeartbeats 4000000
namespace Sh
open PySem PySem.Spec PyProof.Rows L2 RZ
/-! The plain law, fourth part: collapses. -/
theorem erase_twice : ∀ b ∈ all7, ∀ i, i < b.length → ∀ j, j < b.length - 1 →
    if j < i then (b.eraseIdx j).eraseIdx (i - 1) = (b.eraseIdx i).eraseIdx j ∧ b.eraseIdx j ≠ b.eraseIdx i else (b.eraseIdx (j + 1)).eraseIdx i = (b.eraseIdx i).eraseIdx j ∧ b.eraseIdx (j + 1) ≠ b.eraseIdx i := by decide +kernel
theorem mem_hold {F : List Sx} {s b : Sx} : b ∈ hold F s ↔ b ∈ F ∧ 1 < b.length ∧ ∃ i, i < b.length ∧ b.eraseIdx i = s := by
  rw [hold_eq, List.mem_flatMap]
  constructor
  · rintro ⟨c, hc, h⟩
    obtain ⟨rfl, h1, h2⟩ := mem_holdB h
    exact ⟨hc, h1, h2⟩
  · rintro ⟨hb, h1, i, hi, e⟩
    refine ⟨b, hb, List.mem_filterMap.mpr ⟨i, List.mem_range.mpr hi, ?_⟩⟩
    rw [if_pos ⟨h1, e⟩]
theorem free_only {F : List Sx} {p : Sx × Sx} (h : p ∈ freeM F) {b : Sx} (hb : b ∈ F) (h1 : 1 < b.length) {i : Nat} (hi : i < b.length) (e : b.eraseIdx i = p.1) : b = p.2 := by
  have := mem_hold.mpr ⟨hb, h1, i, hi, e⟩
  rw [(mem_freeM.mp h).2] at this
  exact List.mem_singleton.mp this
theorem mem_without {F : List Sx} {p : Sx × Sx} {s : Sx} : s ∈ without F p ↔ s ∈ F ∧ s ≠ p.1 ∧ s ≠ p.2 := by
  unfold without
  rw [List.mem_filter]
  simp
theorem clo_without {F : List Sx} {p : Sx × Sx} (ok : FOk F) (clo : Clo F) (h : p ∈ freeM F) : Clo (without F p) := fun b hb i hi h1 => by
  obtain ⟨hbF, hb1, hb2⟩ := mem_without.mp hb
  obtain ⟨f1, f2, f3, j, hj, ej⟩ := freeM_in h
  refine mem_without.mpr ⟨clo b hbF i hi h1, fun e => hb2 (free_only h hbF h1 hi e), fun e => ?_⟩
  have hlen : p.2.length = b.length - 1 := by rw [← e, List.length_eraseIdx_of_lt hi]
  have hj' : j < b.length - 1 := by omega
  have tw := erase_twice b (ok.a7 b hbF) i hi j hj'
  rw [e, ej] at tw
  split at tw
  · rename_i hji
    have hc := clo b hbF j (by omega) h1
    have hcl : (b.eraseIdx j).length = b.length - 1 := List.length_eraseIdx_of_lt (by omega)
    exact tw.2 (free_only h hc (by omega) (i := i - 1) (by omega) tw.1)
  · rename_i hji
    have hc := clo b hbF (j + 1) (by omega) h1
    have hcl : (b.eraseIdx (j + 1)).length = b.length - 1 := List.length_eraseIdx_of_lt (by omega)
    exact tw.2 (free_only h hc (by omega) (i := i) (by omega) tw.1)
theorem collF_ok : ∀ (n : Nat) (F : List Sx), FOk F → Clo F → StepOk F (collF n F)
  | 0, _, _, _ => trivial
  | n + 1, F, ok, clo => by
    unfold collF
    split
    · trivial
    · rename_i p hp
      have hm := List.mem_of_getLast? hp
      have c := clo_without ok clo hm
      exact ⟨hm, c, collF_ok n _ (ok.without p) c⟩
theorem step_mt : ∀ (C : List (Sx × Sx)) (F : List Sx), StepOk F C → Mt F C
  | [], _, _ => ⟨(fun p hp => by cases hp), List.nodup_nil⟩
  | p :: C, F, h => by
    obtain ⟨h1, _, h3⟩ := h
    have ih := step_mt C _ h3
    obtain ⟨f1, f2, f3, j, hj, ej⟩ := freeM_in h1
    have out : ∀ x ∈ C.flatMap (fun p => [p.1, p.2]), x ≠ p.1 ∧ x ≠ p.2 := fun x hx => by
      obtain ⟨q, hq, hx⟩ := List.mem_flatMap.mp hx
      have m := ih.g q hq
      have hx : x = q.1 ∨ x = q.2 := by simpa using hx
      rcases hx with rfl | rfl
      · exact (mem_without.mp m.a).2
      · exact (mem_without.mp m.b).2
    refine ⟨fun q hq => ?_, ?_⟩
    · rcases List.mem_cons.mp hq with rfl | hq
      · exact ⟨f1, f2, f3, j, hj, ej.symm⟩
      · have m := ih.g q hq
        exact ⟨(mem_without.mp m.a).1, (mem_without.mp m.b).1, m.l, m.e⟩
    · rw [List.flatMap_cons]
      show (p.1 :: p.2 :: C.flatMap fun p => [p.1, p.2]).Nodup
      rw [List.nodup_cons, List.nodup_cons]
      refine ⟨fun z => ?_, fun z => (out _ z).2 rfl, ih.nd⟩
      rcases List.mem_cons.mp z with z | z
      · rw [← ej] at z
        exact erase_ne hj z
      · exact (out _ z).1 rfl
theorem step_notrap : ∀ (C : List (Sx × Sx)) (F : List Sx), StepOk F C → ∀ S, ¬ Trap C S
  | [], _, _, S, h => by
    obtain ⟨p, hp⟩ := List.exists_mem_of_ne_nil S h.1
    cases h.2.1 p hp
  | p :: C, F, h, S, t => by
    obtain ⟨h1, _, h3⟩ := h
    have ih := step_notrap C _ h3
    have mt := step_mt C _ h3
    have inC : ∀ q ∈ S, q.1 ≠ p.1 → q ∈ C := fun q hq hn => by
      rcases List.mem_cons.mp (t.2.1 q hq) with rfl | h
      · exact absurd rfl hn
      · exact h
    have nx : ∀ q ∈ S, q.1 ≠ p.1 → ∃ d ∈ facesOf q.2, d ≠ q.1 ∧ d ∈ (S.filter fun q => !decide (q.1 = p.1)).map (·.1) := fun q hq hn => by
      obtain ⟨d, hd, hdn, hdk⟩ := t.2.2 q hq
      refine ⟨d, hd, hdn, ?_⟩
      obtain ⟨x, hx, e⟩ := List.mem_map.mp hdk
      refine List.mem_map.mpr ⟨x, List.mem_filter.mpr ⟨hx, ?_⟩, e⟩
      simp only [Bool.not_eq_true', decide_eq_false_iff_not]
      intro z
      have m := mt.g q (inC q hq hn)
      obtain ⟨mb, mb1, mb2⟩ := mem_without.mp m.b
      obtain ⟨i, hi, ei⟩ := List.mem_map.mp hd
      have hi := List.mem_range.mp hi
      exact mb2 (free_only h1 mb m.l hi (by rw [ei, ← e, z]))
    by_cases hS : (S.filter fun q => !decide (q.1 = p.1)) = []
    · obtain ⟨q, hq⟩ := List.exists_mem_of_ne_nil S t.1
      have all : ∀ x ∈ S, x.1 = p.1 := fun x hx => by
        have := List.filter_eq_nil_iff.mp hS x hx
        simpa using this
      obtain ⟨d, hd, hdn, hdk⟩ := t.2.2 q hq
      obtain ⟨x, hx, e⟩ := List.mem_map.mp hdk
      exact hdn (by rw [← e, all x hx, all q hq])
    · refine ih _ ⟨hS, fun q hq => ?_, fun q hq => ?_⟩
      · have hq := List.mem_filter.mp hq
        exact inC q hq.1 (by simpa using hq.2)
      · have hq := List.mem_filter.mp hq
        exact nx q hq.1 (by simpa using hq.2)

/-! ### what is left -/
theorem left_ok : ∀ (C : List (Sx × Sx)) (F : List Sx), FOk F → Clo F → StepOk F C → FOk (leftM F C) ∧ Clo (leftM F C) ∧ ∀ s ∈ leftM F C, s ∈ F
  | [], F, ok, clo, _ => ⟨ok, clo, fun _ h => h⟩
  | p :: C, F, ok, _, h => by
    obtain ⟨_, h2, h3⟩ := h
    obtain ⟨a, b, c⟩ := left_ok C _ (ok.without p) h2 h3
    exact ⟨a, b, fun s hs => (mem_without.mp (c s hs)).1⟩
theorem proper_erase {s t : Sx} (h : s.Sublist t) : s.length < t.length → ∃ i, i < t.length ∧ s.Sublist (t.eraseIdx i) := by
  induction h with
  | slnil => intro h; simp at h
  | cons a h _ => intro _; exact ⟨0, by simp, by simpa using h⟩
  | cons_cons a h ih =>
    intro hl
    obtain ⟨i, hi, hs⟩ := ih (by simpa using hl)
    exact ⟨i + 1, by simpa using hi, by simpa using List.Sublist.cons_cons a hs⟩
theorem clo_sub {R : List Sx} (clo : Clo R) : ∀ (n : Nat) (t s : Sx), t.length ≤ n → t ∈ R → s.Sublist t → s ≠ [] → s ∈ R
  | n, t, s, hn, ht, hs, hne => by
    have h0 : 0 < s.length := List.length_pos_iff.mpr hne
    by_cases hl : s.length < t.length
    · obtain ⟨i, hi, h⟩ := proper_erase hs hl
      have hlt : (t.eraseIdx i).length = t.length - 1 := List.length_eraseIdx_of_lt hi
      cases n with
      | zero => omega
      | succ n => exact clo_sub clo n _ s (by omega) (clo t ht i hi (by omega)) h hne
    · have := hs.eq_of_length_le (by omega)
      rw [this]
      exact ht
theorem mem_genR {R : List Sx} (ok : FOk R) (clo : Clo R) {s : Sx} : s ∈ gen R ↔ s ∈ R := by
  rw [mem_gen ok.a7]
  constructor
  · rintro ⟨t, ht, h⟩
    have := (mem_parts (ok.a7 t ht)).mp h
    exact clo_sub clo _ t s (Nat.le_refl _) ht this.2 this.1
  · exact fun h => ⟨s, h, parts_self (ok.a7 s h) (ok.ne s h)⟩
theorem mem_innerOf {F : List Sx} {s : Sx} : s ∈ innerOf F ↔ ∃ t ∈ F, s ∈ facesOf t := by
  unfold innerOf
  have g : ∀ (r I : List Sx), s ∈ r.foldl (fun I s => addAll I (facesOf s)) I ↔ s ∈ I ∨ ∃ t ∈ r, s ∈ facesOf t := by
    intro r
    induction r with
    | nil => intro I; simp
    | cons a r ih =>
      intro I
      rw [List.foldl_cons, ih, mem_addAll]
      constructor
      · rintro ((h | h) | ⟨t, ht, h⟩)
        · exact .inl h
        · exact .inr ⟨a, List.mem_cons_self, h⟩
        · exact .inr ⟨t, List.mem_cons_of_mem _ ht, h⟩
      · rintro (h | ⟨t, ht, h⟩)
        · exact .inl (.inl h)
        · rcases List.mem_cons.mp ht with rfl | ht
          · exact .inl (.inr h)
          · exact .inr ⟨t, ht, h⟩
  rw [g]
  simp
theorem climb {R : List Sx} (ok : FOk R) (clo : Clo R) : ∀ (n : Nat) (s : Sx), 8 - s.length ≤ n → s ∈ R → ∃ m ∈ maxl (gen R), s ∈ parts m
  | n, s, hn, hs => by
    have hl := a7_len (ok.a7 s hs)
    by_cases hi : s ∈ innerOf (gen R)
    · obtain ⟨t, ht, hf⟩ := mem_innerOf.mp hi
      have htR := (mem_genR ok clo).mp ht
      obtain ⟨i, hii, e⟩ := List.mem_map.mp hf
      have hii := List.mem_range.mp hii
      have hlt : s.length = t.length - 1 := by rw [← e, List.length_eraseIdx_of_lt hii]
      cases n with
      | zero => omega
      | succ n =>
        obtain ⟨m, hm, hp⟩ := climb ok clo n t (by omega) htR
        have hm7 := ok.a7 m ((mem_genR ok clo).mp (mem_maxl.mp hm).1)
        refine ⟨m, hm, parts_trans hm7 hp ((mem_parts (ok.a7 t htR)).mpr ⟨ok.ne s hs, ?_⟩)⟩
        rw [← e]
        exact sublist_erase t i
    · exact ⟨s, mem_maxl.mpr ⟨(mem_genR ok clo).mpr hs, hi⟩, parts_self (ok.a7 s hs) (ok.ne s hs)⟩
theorem maxl7 {R : List Sx} (ok : FOk R) : ∀ s ∈ maxl (gen R), s ∈ all7 := fun s hs => (gen_ok ok.a7).a7 s (mem_maxl.mp hs).1
theorem mem_madeM {R : List Sx} (ok : FOk R) (clo : Clo R) {s : Sx} : s ∈ madeM R ↔ s ∈ R := by
  unfold madeM
  rw [mem_gen (maxl7 ok)]
  constructor
  · rintro ⟨m, hm, hp⟩
    have hmR := (mem_genR ok clo).mp (mem_maxl.mp hm).1
    have := (mem_parts (ok.a7 m hmR)).mp hp
    exact clo_sub clo _ m s (Nat.le_refl _) hmR this.2 this.1
  · exact climb ok clo _ s (Nat.le_refl _)

/-! ### the counts -/
theorem crit_flat : ∀ (C : List (Sx × Sx)) (c : List Int), crit c C = (C.flatMap fun p => [p.1, p.2]).foldl (fun c s => bump c s (-1)) c
  | [], c => rfl
  | p :: C, c => by
    rw [List.flatMap_cons, List.foldl_append]
    exact crit_flat C _
theorem cnt_append (A B : List Sx) (i : Nat) : cnt (A ++ B) i = cnt A i + cnt B i := by
  unfold cnt
  rw [List.filter_append, List.length_append]
theorem cnt_without {F : List Sx} {p : Sx × Sx} (hn : F.Nodup) (h1 : p.1 ∈ F) (h2 : p.2 ∈ F) (hne : p.1 ≠ p.2) (i : Nat) : cnt F i = cnt (without F p) i + cnt [p.1, p.2] i := by
  have e : cnt [p.1, p.2] i = (F.filter fun s => decide (s.length - 1 = i) && (decide (s = p.1) || decide (s = p.2))).length := by
    unfold cnt
    refine nodup_len ?_ (hn.sublist List.filter_sublist) fun x => ?_
    · refine List.Nodup.sublist List.filter_sublist ?_
      simp [hne]
    · rw [List.mem_filter, List.mem_filter]
      simp only [List.mem_cons, List.not_mem_nil, or_false, Bool.and_eq_true, Bool.or_eq_true, decide_eq_true_eq]
      constructor
      · rintro ⟨h, hi⟩
        refine ⟨?_, hi, h⟩
        rcases h with rfl | rfl
        · exact h1
        · exact h2
      · rintro ⟨_, hi, h⟩
        exact ⟨h, hi⟩
  rw [e]
  unfold cnt without
  rw [List.filter_filter]
  refine filter_two (fun x hx => ?_) fun x hx hp => ?_
  · by_cases a : x.length - 1 = i <;> by_cases b : x = p.1 <;> by_cases c : x = p.2 <;> simp [a, b, c]
  · simp only [Bool.and_eq_true, Bool.not_eq_true', Bool.or_eq_false_iff, decide_eq_false_iff_not, decide_eq_true_eq] at hp
    simp [hp.2.1, hp.2.2]
theorem cnt_left : ∀ (C : List (Sx × Sx)) (F : List Sx), FOk F → StepOk F C → ∀ i, cnt F i = cnt (leftM F C) i + cnt (C.flatMap fun p => [p.1, p.2]) i
  | [], F, _, _, i => rfl
  | p :: C, F, ok, h, i => by
    obtain ⟨h1, _, h3⟩ := h
    obtain ⟨f1, f2, f3, j, hj, ej⟩ := freeM_in h1
    have ih := cnt_left C _ (ok.without p) h3 i
    rw [List.flatMap_cons, cnt_append, cnt_without ok.nd f1 f2 (by rw [← ej]; exact erase_ne hj) i, ih]
    show _ = cnt (leftM (without F p) C) i + _
    omega
theorem coll_facts {F : List Sx} (ok : FOk F) (clo : Clo F) : StepOk F (coll F) ∧ (coll F).length ≤ F.length ∧ PC (coll F) ∧ lpM F (coll F) = true ∧ FOk (madeM (leftM F (coll F))) ∧ (counts (madeM (leftM F (coll F)))).length ≤ (counts F).length ∧
    crit (counts F) (coll F) = counts (madeM (leftM F (coll F))) ++ List.replicate ((counts F).length - (counts (madeM (leftM F (coll F)))).length) 0 := by
  have st : StepOk F (coll F) := collF_ok _ F ok clo
  have mt := step_mt _ _ st
  have pc := mt_pc ok mt
  obtain ⟨okR, cloR, subR⟩ := left_ok _ _ ok clo st
  have okG : FOk (madeM (leftM F (coll F))) := gen_ok (maxl7 okR)
  have cR : counts (madeM (leftM F (coll F))) = counts (leftM F (coll F)) := counts_congr okG.nd okR.nd fun s => (mem_madeM okR cloR).symm
  have mR : most (leftM F (coll F)) ≤ most F := by
    rcases most_in (F := leftM F (coll F)) with e | e
    · omega
    · obtain ⟨s, hs, e2⟩ := List.mem_map.mp e
      rw [← e2]
      exact most_ge _ (List.mem_map.mpr ⟨s, subR s hs, rfl⟩)
  refine ⟨st, ?_, pc, ?_, okG, ?_, ?_⟩
  · have := nodup_le pc.rc.nd (m := F) fun s hs => by
      obtain ⟨p, hp, rfl⟩ := List.mem_map.mp hs
      exact (mt.g p hp).a
    rw [List.length_map] at this
    exact this
  · unfold lpM
    rw [mt_pairM mt (fun p _ => by simp), Bool.true_and]
    cases h : ring (coll F) with
    | false => rfl
    | true =>
      obtain ⟨S, hS⟩ := (ring_iff _).mp h
      exact absurd hS (step_notrap _ _ st S)
  · rw [cR, counts_len, counts_len]
    exact mR
  · rw [cR, counts_len, counts_len]
    apply List.ext_getElem?
    intro i
    rw [crit_flat, bumps_at, counts_at, List.getElem?_append, counts_len, List.getElem?_replicate, counts_at]
    have hc := cnt_left _ _ ok st i
    by_cases h1 : i < most F
    · rw [if_pos h1]
      by_cases h2 : i < most (leftM F (coll F))
      · rw [if_pos h2, if_pos h2]
        show some ((cnt F i : Int) + -1 * (cnt ((coll F).flatMap fun p => [p.1, p.2]) i : Int)) = some _
        congr 1
        omega
      · rw [if_neg h2, if_pos (by omega)]
        have h0 : cnt (leftM F (coll F)) i = 0 := by
          unfold cnt
          rw [List.length_eq_zero_iff, List.filter_eq_nil_iff]
          intro s hs z
          have z := of_decide_eq_true z
          have h3 := most_ge (F := leftM F (coll F)) s.length (List.mem_map.mpr ⟨s, hs, rfl⟩)
          have h4 : 0 < s.length := List.length_pos_iff.mpr (okR.ne s hs)
          omega
        show some ((cnt F i : Int) + -1 * (cnt ((coll F).flatMap fun p => [p.1, p.2]) i : Int)) = some _
        congr 1
        omega
    · rw [if_neg h1, if_neg (by omega), if_neg (by omega)]
      rfl
end Sh
set_option Elab.async false
set_option linter.all false
set_option maxRecDepth 100000
set_option maxHeartbeats 4000000
namespace Sh
open PySem PySem.Spec PyProof.Rows L2 RZ
section
variable {P : Program} {w : World} {K : PySem.W.Frag} {mg : Str → Option Value} {base : Heap} {C CS CN CB : Addr}
/-! ### law -/
def spLaw (K : PySem.W.Frag) : Sp := fun vs H Q _ => ∃ (a : Addr) (ns : List Int), vs = [.ref a] ∧ SqL K H a (ns.map V.int) ∧ ns.length ≤ 63 ∧ ∀ H', Q (.bl true) H'
abbrev nLaw : List Str := ["_law_script", "_law_row", "_law_turn", "_law_simplices_here", "_law_shape", "_law_faces_here", "_law_pairs", "_law_pair", "_law_due", "_law_most", "_law_face", "_law_counts", "_law_degree", "_law_odd", "_law_big", "_law_value", "_law_steps", "_law_left"]
theorem sc_law : FnScope nLaw ["_law_script"] (defScope (top 50)) := ⟨rfl, rfl, rfl, by decide +kernel, rfl, by decide +kernel, by decide +kernel⟩
def tSeqM (t u : TS) : TS := fun D σ H => ∃ Mid : L2.St → Hp → Prop, (∀ nx' : L2.St → Hp → Prop, (∀ σ' H', Mid σ' H' → nx' σ' H') → t { D with nx := nx' } σ H) ∧ ∀ σ' H', Mid σ' H' → u D σ' H'
theorem pss_consM {X : Cx} {st : Stmt} {rest : List Stmt} {t u : TS} (h1 : PS X st t) (h2 : PSs X rest u) : PSs X (st :: rest) (tSeqM t u) :=
  ⟨fun pins s σ H D I ⟨_, a, b⟩ => (pss_cons h1 h2).run pins s σ H D I (a _ b)⟩
theorem mk_complex1 {H : Hp} {v : V} {ts : List Sx} {x dx : Addr} {Qx : Hp → Prop} (nx : H x = none) (ndx : H dx = none) (nex : dx ≠ x) (hx : (kTp kS).R H v ts) (h7 : ∀ s ∈ ts, s ∈ all7 ∧ s ≠ []) (h4 : ts.length ≤ 400) (k : ∀ H', Ex H H' → Inst C H' (.ref x) (gen ts) → Qx H') :
    spInit C (.ref x :: ([v] ++ [])) (upd (upd H dx (.own x)) x (.ins C dx [])) (fun v H2 => v = .non ∧ Qx H2) E0 := by
  have e1 : Ex H (upd (upd H dx (.own x)) x (.ins C dx [])) := (Ex.new ndx).trans (Ex.new (by rw [upd_ne (Ne.symm nex)]; exact nx))
  refine ⟨x, v, dx, ts, rfl, upd_same, (kTp kS).mono e1.t hx, h7, h4, fun H' f hI => ⟨rfl, k H' (fun a o ha => ?_) hI⟩⟩
  have hne : a ≠ x := ne_of_none ha nx
  exact f a o hne (e1 a o ha)
/-- what a turn of the law knows: the row, the complex, the list of its faces -/
structure Bs (K : PySem.W.Frag) (S : Scr) (r C : Addr) (F L : List Sx) (H : Hp) (vp vl : V) : Prop where
  row : Row K S H r
  ins : Inst C H vp F
  ls : LsD kS H vl L
  ne : vl ≠ .ref r
theorem Bs.ro {K : PySem.W.Frag} {S : Scr} {r C : Addr} {F L : List Sx} {H H' : Hp} {vp vl : V} (b : Bs K S r C F L H vp vl) (h : Ro K S r H H') : Bs K S r C F L H' vp vl := by
  obtain ⟨l, vs, rfl, hl, hp⟩ := b.ls
  exact ⟨h.r, b.ins.mono h.n, ⟨l, vs, rfl, h.f _ _ (fun q => b.ne (by rw [q])) hl, pr_kmono kS h.n.t hp⟩, b.ne⟩
theorem Bs.ex {K : PySem.W.Frag} {S : Scr} {r C : Addr} {F L : List Sx} {H H' : Hp} {vp vl : V} (b : Bs K S r C F L H vp vl) (e : Ex H H') : Bs K S r C F L H' vp vl := b.ro (e.ro b.row)
theorem Mt.imp {F L : List Sx} {P : List (Sx × Sx)} (h : Mt L P) (e : ∀ s, s ∈ L → s ∈ F) : Mt F P := ⟨fun p hp => ⟨e _ (h.g p hp).a, e _ (h.g p hp).b, (h.g p hp).l, (h.g p hp).e⟩, h.nd⟩
theorem sub_fm {α β : Type} (f : α → Bool) (g : α → List β) : ∀ l : List α, List.Sublist ((l.filter f).flatMap g) (l.flatMap g)
  | [] => List.Sublist.slnil
  | a :: l => by
    cases h : f a with
    | true =>
      rw [List.filter_cons_of_pos h, List.flatMap_cons, List.flatMap_cons]
      exact List.Sublist.append (List.Sublist.refl _) (sub_fm f g l)
    | false =>
      rw [List.filter_cons_of_neg (by rw [h]; exact Bool.false_ne_true), List.flatMap_cons]
      exact (sub_fm f g l).trans (List.sublist_append_right _ _)
theorem Mt.filter {F : List Sx} {P : List (Sx × Sx)} (h : Mt F P) (f : Sx × Sx → Bool) : Mt F (P.filter f) := ⟨fun p hp => h.g p (List.mem_filter.mp hp).1, h.nd.sublist (sub_fm f _ P)⟩
/-! odd values -/
def RIL (ls : List Addr) (H : Hp) (x : V) : It0 → Prop
  | .bad => x = .non ∨ ∃ l xs, x = .ref l ∧ l ∉ ls ∧ H l = some (.lst xs)
  | .pr p => kP.R H x p
def OddL (ls : List Addr) (F : List Sx) (H : Hp) (v : V) : Prop := v = .non ∨ (∃ i, v = .int i) ∨ (∃ l xs, v = .ref l ∧ l ∉ ls ∧ H l = some (.lst xs)) ∨ ∃ xs items, IsT H v xs ∧ Paired (RIL ls H) xs items ∧ ICond items ∧ pairM F items [] = false
def Fr (ls : List Addr) (H H' : Hp) : Prop := ∀ b o, b ∉ ls → H b = some o → H' b = some o
theorem RIL.mono {ls : List Addr} {H H' : Hp} {x : V} {it : It0} (f : Fr ls H H') (t : TEx H H') (h : RIL ls H x it) : RIL ls H' x it := by
  cases it with
  | bad =>
    rcases h with h | ⟨l, xs, rfl, hn, h⟩
    · exact .inl h
    · exact .inr ⟨l, xs, rfl, hn, f _ _ hn h⟩
  | pr p => exact kP.mono t h
theorem OddL.mono {ls : List Addr} {F : List Sx} {H H' : Hp} {v : V} (f : Fr ls H H') (t : TEx H H') (h : OddL ls F H v) : OddL ls F H' v := by
  rcases h with h | h | ⟨l, xs, rfl, hn, h⟩ | ⟨xs, items, hx, hp, hc, hf⟩
  · exact .inl h
  · exact .inr (.inl h)
  · exact .inr (.inr (.inl ⟨l, xs, rfl, hn, f _ _ hn h⟩))
  · exact .inr (.inr (.inr ⟨xs, items, hx.mono t, pr_mono hp fun _ _ r => r.mono f t, hc, hf⟩))
theorem OddL.ex {ls : List Addr} {F : List Sx} {H H' : Hp} {v : V} (e : Ex H H') (h : OddL ls F H v) : OddL ls F H' v := h.mono (fun b o _ hb => e b o hb) e.t
theorem ni_more {r lo l : Addr} {H : Hp} {xs : List V} (hlo : H lo = none) (hn : l ∉ [r]) (h : H l = some (.lst xs)) : l ∉ [r, lo] := fun z => by
  rcases List.mem_cons.mp z with e | z
  · exact hn (by rw [e]; exact List.mem_cons_self)
  · rw [List.mem_singleton.mp z, hlo] at h
    cases h
theorem RIL.more {r lo : Addr} {H : Hp} {x : V} {it : It0} (hlo : H lo = none) (h : RIL [r] H x it) : RIL [r, lo] H x it := by
  cases it with
  | bad =>
    rcases h with h | ⟨l, xs, rfl, hn, h⟩
    · exact .inl h
    · exact .inr ⟨l, xs, rfl, ni_more hlo hn h, h⟩
  | pr p => exact h
/-- a new object is none of the lists -/
theorem OddL.more {r lo : Addr} {F : List Sx} {H : Hp} {v : V} (hlo : H lo = none) (h : OddL [r] F H v) : OddL [r, lo] F H v := by
  rcases h with h | h | ⟨l, xs, rfl, hn, h⟩ | ⟨xs, items, hx, hp, hc, hf⟩
  · exact .inl h
  · exact .inr (.inl h)
  · exact .inr (.inr (.inl ⟨l, xs, rfl, ni_more hlo hn h, h⟩))
  · exact .inr (.inr (.inr ⟨xs, items, hx, pr_mono hp fun _ _ r => r.more hlo, hc, hf⟩))
theorem OddL.less {r lo : Addr} {F : List Sx} {H : Hp} {v : V} (h : OddL [r, lo] F H v) : OddL [r] F H v := by
  have key : ∀ l : Addr, l ∉ [r, lo] → l ∉ [r] := fun l hn z => hn (by rw [List.mem_singleton.mp z]; exact List.mem_cons_self)
  rcases h with h | h | ⟨l, xs, rfl, hn, h⟩ | ⟨xs, items, hx, hp, hc, hf⟩
  · exact .inl h
  · exact .inr (.inl h)
  · exact .inr (.inr (.inl ⟨l, xs, rfl, key l hn, h⟩))
  · refine .inr (.inr (.inr ⟨xs, items, hx, pr_mono hp fun x it r => ?_, hc, hf⟩))
    cases it with
    | bad =>
      rcases r with h | ⟨l, xs, rfl, hn, h⟩
      · exact .inl h
      · exact .inr ⟨l, xs, rfl, key l hn, h⟩
    | pr p => exact r
theorem OddL.odd {ls : List Addr} {F : List Sx} {H : Hp} {v : V} (h : OddL ls F H v) : Odd F H v := by
  rcases h with h | h | ⟨l, xs, rfl, hn, h⟩ | ⟨xs, items, hx, hp, hc, hf⟩
  · exact .inl (.inl h)
  · exact .inl (.inr (.inl h))
  · exact .inl (.inr (.inr ⟨l, xs, rfl, h⟩))
  · refine .inr ⟨xs, items, hx, pr_mono hp fun x it r => ?_, hc, hf⟩
    cases it with
    | bad =>
      rcases r with h | ⟨l, xs, rfl, hn, h⟩
      · exact .inl h
      · exact .inr ⟨l, xs, rfl, h⟩
    | pr p => exact r
theorem badN (F : List Sx) : BadIt F .bad := trivial
theorem badA {F : List Sx} {p : Sx × Sx} (h : p.2 ∉ F) : BadIt F (.pr p) := Or.inl h
theorem badB {F : List Sx} {p : Sx × Sx} (h : p.2.length ≠ p.1.length + 1) : BadIt F (.pr p) := Or.inr (Or.inl h)
theorem badC {F : List Sx} {p : Sx × Sx} (h : (p.1.any fun x => !decide (x ∈ p.2)) = true) : BadIt F (.pr p) := Or.inr (Or.inr h)
theorem ril_non (ls : List Addr) (H : Hp) : RIL ls H .non .bad := Or.inl rfl
theorem pr_RIL {ls : List Addr} {H : Hp} : ∀ {xs : List V} {ps : List (Sx × Sx)}, Paired (kP.R H) xs ps → Paired (RIL ls H) xs (prs ps)
  | _, _, .nil => .nil
  | _, _, .cons r t => .cons r (pr_RIL t)
theorem ic_snoc {P : List (Sx × Sx)} (pc : PC P) {it : It0} (h : ∀ p, it = .pr p → Good p.1 ∧ Good p.2 ∧ (p.2 ∈ all7 → p.1 ∈ all7)) : ICond (prs P ++ [it]) := fun p hp => by
  rcases List.mem_append.mp hp with hp | hp
  · exact pc.ic p hp
  · exact h p (List.mem_singleton.mp hp).symm
def taI : List Int → TA
  | [] => tNil
  | a :: r => tCons (tC (.int a)) (taI r)
theorem taI_of : ∀ (s : Sx) (σ : L2.St) (H : Hp) (Q : List V → Hp → Prop), Q (s.map V.int) H → taI s σ H Q
  | [], _, _, _, h => h
  | a :: r, σ, H, Q, h => taI_of r σ H (fun xs H2 => Q (.int a :: xs) H2) h
/-- pairs + ((s, t),) -/
theorem cat_pr {σ : L2.St} {H : Hp} {Q : VK} {i : Nat} {v : V} {P : List (Sx × Sx)} (r : Addr) (s t : Sx) (h : σ[i]? = some (some v)) (hv : TpP kP H v P) (hs : s.length ≤ 8) (ht : t.length ≤ 8) (hP : P.length ≤ 1000)
    (k : ∀ u H', Ex H H' → (∃ xs, IsT H' u xs ∧ Paired (RIL [r] H') xs (prs P ++ [.pr (s, t)])) → Q u H') :
    tOp rCatG (tVar i) (tTup (tCons (tTup (tCons (tTup (taI s)) (tCons (tTup (taI t)) tNil))) tNil)) σ H Q := by
  obtain ⟨a, o, vs, rfl, ha, _, hp⟩ := id hv
  refine ⟨_, h, ?_⟩
  refine taI_of s _ _ _ ⟨by rw [List.length_map, sizeLine_eq]; omega, fun a1 h1 => ?_⟩
  have e1 : Ex H (upd H a1 (.tup (s.map V.int))) := Ex.new h1
  refine taI_of t _ _ _ ⟨by rw [List.length_map, sizeLine_eq]; omega, fun a2 h2 => ?_⟩
  have e2 := Ex.new h2 (o := .tup (t.map V.int))
  refine ⟨by show 2 ≤ sizeLine; decide, fun a3 h3 => ?_⟩
  have e3 := Ex.new h3 (o := .tup [.ref a1, .ref a2])
  refine ⟨by show 1 ≤ sizeLine; decide, fun a4 h4 => ?_⟩
  have e4 := Ex.new h4 (o := .tup [.ref a3])
  have hs1 : upd H a1 (.tup (s.map V.int)) a1 = some (.tup (s.map V.int)) := upd_same
  generalize upd H a1 (.tup (s.map V.int)) = H1 at *
  have ht2 : upd H1 a2 (.tup (t.map V.int)) a2 = some (.tup (t.map V.int)) := upd_same
  generalize upd H1 a2 (.tup (t.map V.int)) = H2 at *
  have h33 : upd H2 a3 (.tup [.ref a1, .ref a2]) a3 = some (.tup [.ref a1, .ref a2]) := upd_same
  generalize upd H2 a3 (.tup [.ref a1, .ref a2]) = H3 at *
  have h44 : upd H3 a4 (.tup [.ref a3]) a4 = some (.tup [.ref a3]) := upd_same
  generalize upd H3 a4 (.tup [.ref a3]) = H4 at *
  have e14 := ((e1.trans e2).trans e3).trans e4
  have hvl := pr_len hp
  refine ⟨vs, [.ref a3], ⟨a, rfl, .inr ⟨o, e14 _ _ ha⟩⟩, ⟨a4, rfl, .inl h44⟩, by show vs.length + 1 ≤ _; omega, fun u H5 e5 hu => ?_⟩
  have hR : kP.R H5 (.ref a3) (s, t) := ⟨a3, .ref a1, .ref a2, rfl, e5 _ _ (e4 _ _ h33), ⟨a1, rfl, e5 _ _ (e4 _ _ (e3 _ _ (e2 _ _ hs1)))⟩, ⟨a2, rfl, e5 _ _ (e4 _ _ (e3 _ _ ht2))⟩⟩
  exact k u H5 (e14.trans e5) ⟨_, hu, pr_append (pr_RIL (pr_kmono kP (e14.trans e5).t hp)) (.cons hR .nil)⟩
theorem odd_two {ls : List Addr} {F : List Sx} {H : Hp} {t1 t2 t3 : Addr} {p q : Sx × Sx} (h3 : H t3 = some (.tup [.ref t1, .ref t2])) (k1 : kP.R H (.ref t1) p) (k2 : kP.R H (.ref t2) q) (gp : Good p.1 ∧ Good p.2 ∧ (p.2 ∈ all7 → p.1 ∈ all7)) (gq : Good q.1 ∧ Good q.2 ∧ (q.2 ∈ all7 → q.1 ∈ all7))
    (h : p.1 = q.1 ∨ p.1 = q.2 ∨ p.2 = q.1 ∨ p.2 = q.2) : OddL ls F H (.ref t3) := by
  have hp : Paired (RIL ls H) [.ref t1, .ref t2] [It0.pr p, It0.pr q] := .cons k1 (.cons k2 .nil)
  refine .inr (.inr (.inr ⟨_, _, ⟨t3, rfl, .inl h3⟩, hp, fun x hx => ?_, odd_twice h [.pr p] [] [] (List.mem_singleton.mpr rfl)⟩))
  have hx : It0.pr x = .pr p ∨ It0.pr x = .pr q := by simpa using hx
  rcases hx with e | e
  · injection e with e
    rw [e]
    exact gp
  · injection e with e
    rw [e]
    exact gq
theorem cut7 : ∀ b ∈ all7, 1 < b.length → (b.drop 1 ∈ all7 ∧ b.drop 1 ≠ []) ∧ (b.dropLast ∈ all7 ∧ b.dropLast ≠ []) ∧ (2 < b.length → b.drop 2 ∈ all7 ∧ b.drop 2 ≠ []) := by decide +kernel
/-- the list of the odd values -/
structure OL (r l : Addr) (F : List Sx) (H : Hp) (lo : Addr) (vs : List V) : Prop where
  h0 : H lo = some (.lst vs)
  ne : vs ≠ []
  len : vs.length ≤ 20
  od : ∀ v ∈ vs, OddL [r, lo] F H v
  nr : lo ≠ r
  nl : lo ≠ l
theorem OL.ro {K : PySem.W.Frag} {S : Scr} {r l lo : Addr} {F : List Sx} {H H' : Hp} {vs : List V} (o : OL r l F H lo vs) (h : Ro K S r H H') : OL r l F H' lo vs :=
  ⟨h.f _ _ o.nr o.h0, o.ne, o.len, fun v hv => (o.od v hv).mono (fun b u nb hb => h.f b u (fun z => nb (by rw [z]; exact List.mem_cons_self)) hb) h.n.t, o.nr, o.nl⟩
theorem OL.ex {r l lo : Addr} {F : List Sx} {H H' : Hp} {vs : List V} (o : OL r l F H lo vs) (e : Ex H H') : OL r l F H' lo vs :=
  ⟨e _ _ o.h0, o.ne, o.len, fun v hv => (o.od v hv).ex e, o.nr, o.nl⟩
theorem OL.app {r l lo : Addr} {F : List Sx} {H : Hp} {vs : List V} {v : V} (o : OL r l F H lo vs) (h : OddL [r, lo] F H v) (hl : vs.length ≤ 19) : OL r l F (upd H lo (.lst (vs ++ [v]))) lo (vs ++ [v]) := by
  have f : Fr [r, lo] H (upd H lo (.lst (vs ++ [v]))) := fun b u nb hb => by
    rw [upd_ne fun z => nb (by rw [z]; simp)]
    exact hb
  have t : TEx H (upd H lo (.lst (vs ++ [v]))) := TEx.wrL o.h0
  refine ⟨upd_same, by simp, by rw [List.length_append]; show vs.length + 1 ≤ 20; omega, fun w hw => ?_, o.nr, o.nl⟩
  rcases List.mem_append.mp hw with hw | hw
  · exact (o.od w hw).mono f t
  · rw [List.mem_singleton.mp hw]
    exact h.mono f t
theorem cutV_len (xs : List V) (lo hi : Option Int) : (cutV xs lo hi).length ≤ xs.length := by
  unfold cutV
  rw [List.length_take, List.length_drop]
  omega
theorem crit_len : ∀ (P : List (Sx × Sx)) (c : List Int), (crit c P).length = c.length
  | [], _ => rfl
  | p :: P, c => by
    show (crit (bump (bump c p.1 (-1)) p.2 (-1)) P).length = _
    rw [crit_len P, bump_len, bump_len]
theorem ok_law (T : Tx K mg C CS CN CB) {f : Addr} {fd : FuncData} (F : Fun K "law" "law" (top 50) f fd) : FnOk P w K mg base CX0 12 f fd ["_law_script"] (spLaw K) := by
  obtain ⟨fi, fdi, hM, hb, G⟩ := ok_init (P := P) (w := w) (base := base) T
  refine F.ok sc_law (fun vs H Q E h => ?_) (fun cdv A outer s H vs Q E hr h => ?_)
  · obtain ⟨a, ns, rfl, _⟩ := h
    rfl
  · obtain ⟨a, ns, rfl, hS, hlen, k⟩ := h
    have hu : (A.deeper (envOfC "law" (defScope (top 50)) s.heap.objs.size f cdv)).units + 64 < cLine := hr.units
    have hu2 : (A.deeper (envOfC "law" (defScope (top 50)) s.heap.objs.size f cdv)).units + 65 < cLine := by have := hr.un; omega
    refine ⟨_, pss_cons (ps_set (i := 1) sc_law.nd rfl (Or.inl rfl) (pe_lst (pa_cons (pv 0) (pa_cons pe_int (pa_cons pe_int (pa_cons pe_int pa_nil))))))
      (pss_cons (ps_for PassesOwn.never rfl (pi_range1 rfl T.n_range (pa_cons pe_int pa_nil)) (pg_name (i := 2) sc_law.nd rfl (Or.inl rfl))
        (pss_consM (ps_set (i := 3) sc_law.nd rfl (Or.inl rfl) (pe_c (ok_wide T) hr (by decide) pass0 (pa_cons (pv 1) (pa_cons pe_int (pa_cons pe_int pa_nil)))))
        (pss_consM (ps_asg (pe_tup (pa_cons (pe_make hM G (hr.mono (by decide)) rfl T.mgC hb .nil pass0 (pa_cons (pv 3) pa_nil)) (pa_cons (pe_c (ok_faces T) hr (by decide) pass0 (pa_cons (pv 3) pa_nil)) pa_nil))) (pg_tup rfl (pgs_cons (pg_name (i := 4) sc_law.nd rfl (Or.inl rfl)) (pgs_cons (pg_name (i := 5) sc_law.nd rfl (Or.inr rfl)) pgs_nil))))
        (pss_consM (ps_set (i := 6) sc_law.nd rfl (Or.inl rfl) (pe_c (ok_matching T) hr (by decide) pass0 (pa_cons (pv 1) (pa_cons (pv 5) pa_nil))))
        (pss_consM (ps_if (PW.pt (pw_and (pt_cmpR op_eq (pe_c (ok_taken T) hr (by decide) pass0 (pa_cons (pv 1) (pa_cons pe_int pa_nil))) pe_int (nomark _)) (pw_and1 (pt_cmpR op_gt (pe_callB call_len_seq (by rfl) T.n_len PySem.boot_len (pa_cons (pv 5) pa_nil)) pe_int (nomark _)))))
          (pss_one (ps_set (i := 6) sc_law.nd rfl (Or.inl rfl) (pe_callTy (call_tupP kP) (by rfl) T.n_tuple (by decide +kernel) (pa_cons (pe_lc (own := [("_law_pair", 7)]) (g := gName 7) (tt := tTest (tOp rNe (tCB (rLen1 K) (tCons (tOp (rIxT K) (tVar 7) (tC (.int 0))) tNil)) (tC (.int 1)))) (te := tVar 7) rfl sc_law.nd (pi_tup (pv 6)) (blkOk_by (N := nLaw) (sc := defScope (top 50)) (by decide +kernel))
            (fun _ _ _ _ _ => pg_name (i := 7) sc_law.nd rfl (Or.inl rfl)) (fun _ _ _ _ _ => pts_one (pt_cmpR op_ne (pe_callB call_len_seq (by rfl) T.n_len PySem.boot_len (pa_cons (pe_ix ix_tup (pv 7) pe_int (fun _ _ => rfl)) pa_nil)) pe_int (nomark _))) (fun _ _ _ _ _ => pv 7)) pa_nil)))) pss_nil)
        (pss_consM (ps_set (i := 8) sc_law.nd rfl (Or.inl rfl) (pe_not (pe_c (ok_rings T) hr (by decide) pass0 (pa_cons (pv 6) pa_nil))))
        (pss_consM (ps_if (pt_not (pt_val (pe_c (ok_alike T) hr (by decide) pass0 (pa_cons (pe_c (ok_is_loopless T) hr (by decide) passL (pa_cons (pv 4) (pa_cons (pv 6) pa_nil))) (pa_cons (pv 8) pa_nil))))) pss_never pss_nil)
        (pss_consM (ps_set (i := 9) sc_law.nd rfl (Or.inl rfl) (pe_callB (cr_max rfl) (by rfl) T.n_max (by decide +kernel) (pa_cons (pe_op op_cat
            (pe_lc (own := [("_law_face", 10)]) (g := gName 10) (tt := tYes) (te := tCB (rLen1 K) (tCons (tVar 10) tNil)) rfl sc_law.nd (pi_list (pv 5)) (blkOk_by (N := nLaw) (sc := defScope (top 50)) (by decide +kernel)) (fun _ _ _ _ _ => pg_name (i := 10) sc_law.nd rfl (Or.inl rfl)) (fun _ _ _ _ _ => pts_nil)
              (fun _ _ _ _ _ => pe_callB call_len_seq (by rfl) T.n_len PySem.boot_len (pa_cons (pv 10) pa_nil))) (pe_lst (pa_cons pe_int pa_nil))) pa_nil)))
        (pss_consM (ps_setLc (i := 11) (own := [("_law_degree", 12)]) (g := gName 12) (tt := tYes) (te := tCB (rLen1 K) (tCons (tCall spAt [] E0 (tCons (tVar 5) (tCons (tVar 12) tNil))) tNil)) rfl sc_law.nd rfl rfl (sw_true rfl rfl rfl (by decide +kernel)) (pi_range1 rfl T.n_range (pa_cons (pv 9) pa_nil)) (blkOk_by (N := nLaw) (sc := defScope (top 50)) (by decide +kernel))
            (fun _ _ _ _ _ => pg_name (i := 12) sc_law.nd rfl (Or.inl rfl)) (fun _ _ _ _ _ => pts_nil) (fun _ _ _ _ _ => pe_callB call_len_seq (by rfl) T.n_len PySem.boot_len (pa_cons (pe_c (ok_at T) hr (by decide) pass0 (pa_cons (pv 5) (pa_cons (pv 12) pa_nil))) pa_nil)))
        (pss_consM (ps_for PassesOwn.never rfl (pi_tup (pv 6)) (pg_name (i := 7) sc_law.nd rfl (Or.inl rfl)) (pss_one (ps_for PassesOwn.never rfl (pi_tup (pv 7)) (pg_name (i := 10) sc_law.nd rfl (Or.inl rfl))
            (pss_one (ps_asg (pe_op op_sub (pe_ix ix_list (pv 11) (pe_op op_sub (pe_callB call_len_seq (by rfl) T.n_len PySem.boot_len (pa_cons (pv 10) pa_nil)) pe_int) (fun _ _ => rfl)) pe_int) (pg_sub (pv 11) (pe_op op_sub (pe_callB call_len_seq (by rfl) T.n_len PySem.boot_len (pa_cons (pv 10) pa_nil)) pe_int) set_list))))))
        (pss_consM (ps_if (pt_not (pt_val (pe_c (ok_alike T) hr (by decide) pass0 (pa_cons (pe_c (ok_told T) hr (by decide) pass0 (pa_cons (pv 4) (pa_cons (pv 6) pa_nil))) (pa_cons (pe_ifExp (pt_val (pv 8)) (pe_callTy call_tupD (by rfl) T.n_tuple (by decide +kernel) (pa_cons (pv 11) pa_nil)) pe_str) pa_nil))))) pss_never pss_nil)
        (pss_consM (ps_set (i := 13) sc_law.nd rfl (Or.inl rfl) (pe_lst (pa_cons pe_non (pa_cons (pe_callTy call_list_of (by rfl) T.n_list (by decide +kernel) (pa_cons (pv 6) pa_nil)) (pa_cons (pe_op op_catG (pv 6) (pe_tup (pa_cons pe_non pa_nil)))
            (pa_cons (pe_op op_catG (pv 6) (pe_tup (pa_cons (pe_tup (pa_cons (pe_tup (pa_cons pe_int pa_nil)) (pa_cons (pe_tup (pa_cons pe_int (pa_cons pe_int pa_nil))) pa_nil))) pa_nil)))
            (pa_cons (pe_op op_catG (pv 6) (pe_tup (pa_cons (pe_tup (pa_cons (pe_tup (pa_cons pe_int pa_nil)) (pa_cons (pe_tup (pa_cons pe_int (pa_cons pe_int (pa_cons pe_int pa_nil)))) pa_nil))) pa_nil)))
            (pa_cons (pe_op op_catG (pv 6) (pe_tup (pa_cons (pe_tup (pa_cons (pe_tup (pa_cons pe_int pa_nil)) (pa_cons (pe_tup (pa_cons pe_int (pa_cons pe_int pa_nil))) pa_nil))) pa_nil)))
            (pa_cons pe_int pa_nil)))))))))
        (pss_consM (ps_set (i := 13) sc_law.nd rfl (Or.inl rfl) (pe_op op_cat (pe_op op_cat (pv 13) (pe_op op_rep (pe_lst (pa_cons (pe_op op_catG (pv 6) (pe_slice sl_G (pv 6) po_none (po_some pe_int))) pa_nil)) (pe_callTy call_int1 (by rfl) T.n_int (by decide +kernel) (pa_cons (pe_cmpR (op_neK (kTp kP) (by decide) hu) (pv 6) (pe_tup pa_nil) (nomark _)) pa_nil))))
            (pe_lst (pa_cons (pe_op op_catG (pv 6) (pe_tup (pa_cons (pe_lst (pa_cons (pe_tup (pa_cons pe_int pa_nil)) (pa_cons (pe_tup (pa_cons pe_int (pa_cons pe_int pa_nil))) pa_nil))) pa_nil))) pa_nil))))
        (pss_consM (ps_set (i := 14) sc_law.nd rfl (Or.inl rfl) (pe_c (ok_pick T) hr (by decide) pass0 (pa_cons (pv 1) (pa_cons (pe_op op_cat
            (pe_lc (own := [("_law_face", 10)]) (g := gName 10) (tt := tTest (tOp (rI0 fun i j => .bl (decide (i > j))) (tCB (rLen1 K) (tCons (tVar 10) tNil)) (tC (.int 1)))) (te := tVar 10) rfl sc_law.nd (pi_list (pv 5)) (blkOk_by (N := nLaw) (sc := defScope (top 50)) (by decide +kernel)) (fun _ _ _ _ _ => pg_name (i := 10) sc_law.nd rfl (Or.inl rfl))
              (fun _ _ _ _ _ => pts_one (pt_cmpR op_gt (pe_callB call_len_seq (by rfl) T.n_len PySem.boot_len (pa_cons (pv 10) pa_nil)) pe_int (nomark _))) (fun _ _ _ _ _ => pv 10))
            (pe_lst (pa_cons (pe_tup (pa_cons pe_int (pa_cons pe_int pa_nil))) pa_nil))) pa_nil))))
        (pss_consM (ps_expr (pe_bm PySem.F.plainAttrs_list PySem.F.slot_list_append PySem.F.type_list_append mt_append (pv 13) (pa_cons (pe_tup (pa_cons (pe_tup (pa_cons (pe_slice sl_D (pv 14) (po_some pe_int) po_none) (pa_cons (pv 14) pa_nil))) (pa_cons (pe_tup (pa_cons (pe_slice sl_D (pv 14) po_none (po_some (pe_un un_neg pe_int))) (pa_cons (pv 14) pa_nil))) pa_nil))) pa_nil)))
        (pss_consM (ps_if (pt_cmpR op_gt (pe_callB call_len_seq (by rfl) T.n_len PySem.boot_len (pa_cons (pv 14) pa_nil)) pe_int (nomark _))
            (pss_one (ps_expr (pe_bm PySem.F.plainAttrs_list PySem.F.slot_list_append PySem.F.type_list_append mt_append (pv 13) (pa_cons (pe_tup (pa_cons (pe_tup (pa_cons (pe_slice sl_D (pv 14) (po_some pe_int) po_none) (pa_cons (pv 14) pa_nil))) (pa_cons (pe_tup (pa_cons (pe_slice sl_D (pv 14) (po_some pe_int) po_none) (pa_cons (pe_slice sl_D (pv 14) (po_some pe_int) po_none) pa_nil))) pa_nil))) pa_nil)))) pss_nil)
        (pss_consM (ps_set (i := 15) sc_law.nd rfl (Or.inl rfl) (pe_c (ok_pick T) hr (by decide) pass0 (pa_cons (pv 1) (pa_cons (pe_lst (pa_cons (pe_c (ok_pick T) hr (by decide) pass0 (pa_cons (pv 1) (pa_cons (pv 13) pa_nil))) (pa_cons (pe_ix ix_list (pv 13) (pe_un un_neg pe_int) (fun _ _ => rfl)) pa_nil))) pa_nil))))
        (pss_consM (ps_if (PW.pt (pw_or (pt_cmpR op_isnot_bl (pe_c (ok_is_loopless T) hr (by decide) passL (pa_cons (pv 4) (pa_cons (pv 15) pa_nil))) pe_bl rfl) (pw_or1 (pt_cmpR op_ne (pe_c (ok_told T) hr (by decide) pass0 (pa_cons (pv 4) (pa_cons (pv 15) pa_nil))) pe_str (nomark _))))) pss_never pss_nil)
        (pss_consM (ps_par (i := 16) (j := 17) rfl sc_law.nd rfl rfl (by decide) rfl rfl (pa_cons (pe_c (ok_coll T) hr (by decide) pass0 (pa_cons (pv 4) pa_nil)) (pa_cons (pe_c (ok_counts_of T) hr (by decide) pass0 (pa_cons (pe_c (ok_left T) hr (by decide) pass0 (pa_cons (pv 4) pa_nil)) pa_nil)) pa_nil)) rfl)
        (pss_one (ps_if (pt_not (pt_val (pe_c (ok_alike T) hr (by decide) pass0 (pa_cons (pe_c (ok_told T) hr (by decide) pass0 (pa_cons (pv 4) (pa_cons (pv 16) pa_nil))) (pa_cons (pe_op op_catG (pv 17) (pe_op op_repG (pe_tup (pa_cons pe_int pa_nil))
            (pe_op op_sub (pe_callB call_len_seq (by rfl) T.n_len PySem.boot_len (pa_cons (pe_c (ok_counts_of T) hr (by decide) pass0 (pa_cons (pv 4) pa_nil)) pa_nil)) (pe_callB call_len_seq (by rfl) T.n_len PySem.boot_len (pa_cons (pv 17) pa_nil))))) pa_nil))))) pss_never pss_nil)))))))))))))))))))))
      (pss_one (ps_ret (pe_cmpR op_eq (pe_c (ok_told T) hr (by decide) pass0 (pa_cons (pe_c (ok_pick T) hr (by decide) pass0 (pa_cons (pv 1) (pa_cons (pe_lst (pa_cons pe_non (pa_cons (pe_tup (pa_cons (pe_tup (pa_cons pe_int (pa_cons pe_int pa_nil))) pa_nil)) (pa_cons pe_int (pa_cons pe_bl pa_nil))))) pa_nil))) (pa_cons pe_non pa_nil))) pe_str (nomark _))))), ?_⟩
    refine ⟨_, rfl, by show 4 ≤ sizeLine; decide, fun r hr0 => ?_⟩
    have hR0 : Row K ⟨a, ns⟩ (upd H r (.lst [.ref a, .int 0, .int 3395, .int 0])) r := by
      refine ⟨0, 3395, 0, upd_same, fun H2 fr => ?_, hlen, by decide, by decide, by decide⟩
      have tr : ∀ o, H a = some o → H2 a = some o := fun o ho => by
        have hne := ne_of_none ho hr0
        exact fr a o hne (by rw [upd_ne hne]; exact ho)
      rcases hS with (h | ⟨o, h⟩) | h
      · exact .inl (.inl (tr _ h))
      · exact .inl (.inr ⟨o, tr _ h⟩)
      · exact .inr h
    generalize upd H r (.lst [.ref a, .int 0, .int 3395, .int 0]) = H0 at hR0
    refine ⟨2, rfl, by decide, by decide, ?_⟩
    refine forR_rng (fun i σ H' => Row K ⟨a, ns⟩ H' r ∧ ∃ o2 o3 o4 o5 o6 o7 o8 o9 o10 o11 o12 o13 o14 o15 o16 o17, σ = [some (.ref a), some (.ref r), o2, o3, o4, o5, o6, o7, o8, o9, o10, o11, o12, o13, o14, o15, o16, o17])
      ⟨hR0, none, none, none, none, none, none, none, none, none, none, none, none, none, none, none, none, rfl⟩ ?_ ?_
    · rintro i σ H1 hi ⟨hR1, o2, o3, o4, o5, o6, o7, o8, o9, o10, o11, o12, o13, o14, o15, o16, o17, rfl⟩
      generalize (⟨a, ns⟩ : Scr) = S at hR1
      refine ⟨fun σ' H' => ∃ ts v3, σ' = [some (.ref a), some (.ref r), some (.int (i : Int)), some v3, o4, o5, o6, o7, o8, o9, o10, o11, o12, o13, o14, o15, o16, o17] ∧ Row K S H' r ∧ (kTp kS).R H' v3 ts ∧ Sxs ts ∧ ts.length ≤ 21, fun nx' hnx => ?_, ?_⟩
      · exact ⟨_, rfl, S, r, rfl, hR1, fun ts v3 H2 R2 hts hSx htl => hnx _ _ ⟨ts, v3, rfl, R2.r, hts, hSx, htl⟩⟩
      rintro σ H2 ⟨ts, v3, rfl, hR2, hts, hSx, htl⟩
      obtain ⟨okF, cloF, okL, same⟩ := law_facts hSx
      -- shape, faces
      refine ⟨fun σ' H' => ∃ vp vl, σ' = [some (.ref a), some (.ref r), some (.int (i : Int)), some v3, some vp, some vl, o6, o7, o8, o9, o10, o11, o12, o13, o14, o15, o16, o17] ∧ Bs K S r C (gen ts) (lawFaces ts) H' vp vl, fun nx' hnx => ?_, ?_⟩
      · refine ⟨_, rfl, ?_⟩
        intro p dx nx ndx nex
        refine mk_complex1 nx ndx nex hts hSx (by omega) fun H3 e3 hI => ?_
        refine ⟨_, rfl, v3, ts, rfl, (kTp kS).mono e3.t hts, hSx, fun l H4 e4 hl0 hL => ?_⟩
        refine ⟨by show 2 ≤ sizeLine; decide, fun t ht => ?_⟩
        have e5 : Ex H4 (upd H4 t (.tup [.ref p, .ref l])) := Ex.new ht
        refine ⟨t, _, rfl, SqT.of upd_same, rfl, _, _, rfl, _, _, rfl, rfl, ?_⟩
        have e35 := (e3.trans e4).trans e5
        have hlr : l ≠ r := (hR2.ex e3).ne hl0
        exact hnx _ _ ⟨.ref p, .ref l, rfl, hR2.ex e35, hI.mono (e4.trans e5).n, hL.ex e5, fun z => hlr (by injection z)⟩
      generalize gen ts = F at okF cloF same ⊢
      generalize lawFaces ts = L at okL same ⊢
      have sLF : ∀ s, s ∈ L → s ∈ F := fun s => (same s).mp
      rintro σ H3 ⟨vp, vl, rfl, B3⟩
      -- pairs
      obtain ⟨l, lvs, rfl, hl3, hlp3⟩ := id B3.ls
      refine ⟨fun σ' H' => ∃ v6 P, σ' = [some (.ref a), some (.ref r), some (.int (i : Int)), some v3, some vp, some (.ref l), some v6, o7, o8, o9, o10, o11, o12, o13, o14, o15, o16, o17] ∧ Bs K S r C F L H' vp (.ref l) ∧ TpP kP H' v6 P ∧ Mt L P, fun nx' hnx => ?_, ?_⟩
      · exact ⟨_, rfl, _, rfl, S, r, l, L, rfl, B3.row, B3.ls, (fun z => B3.ne (by rw [z])), okL.nd, okL.a7, fun P0 v60 H4 R4 hP0 hM0 => hnx _ _ ⟨v60, P0, rfl, B3.ro R4, hP0, hM0⟩⟩
      rintro σ H4 ⟨v60, P0, rfl, B4, hP0, hM0⟩
      refine ⟨fun σ' H' => ∃ v6 P o7, σ' = [some (.ref a), some (.ref r), some (.int (i : Int)), some v3, some vp, some (.ref l), some v6, o7, o8, o9, o10, o11, o12, o13, o14, o15, o16, o17] ∧ Bs K S r C F L H' vp (.ref l) ∧ TpP kP H' v6 P ∧ Mt F P, fun nx' hnx => ?_, ?_⟩
      · skip
        refine ⟨_, rfl, S, r, 3, rfl, by decide, by decide, B4.row, fun n H5 hn R5 => ?_⟩
        have B5 := B4.ro R5
        have hP5 := hP0.mono R5.n.t
        have keep := hnx _ H5 ⟨v60, P0, o7, rfl, B5, hP5, hM0.imp sLF⟩
        refine ⟨rfl, _, rfl, ?_⟩
        refine ite2 (fun _ => ?_) (fun _ => iteF keep)
        obtain ⟨l', lv5, el5, hl5, hlp5⟩ := id B5.ls
        cases el5
        refine ⟨_, rfl, l, _, rfl, .inl (SqL.of hl5), _, _, rfl, rfl, _, rfl, ?_⟩
        refine ite2 (fun _ => ?_) (fun _ => keep)
        obtain ⟨ap, op, pvs, rfl, hap, _, hpp⟩ := id hP5
        refine ⟨_, rfl, ap, rfl, ⟨_, SqT.rd (.inr ⟨op, hap⟩)⟩, fun D hD => ?_⟩
        have hpl := pr_len hpp
        have hPl : P0.length ≤ 1000 := (mt_pc okL hM0).rc.few
        refine lcD_tup hD kP kP (fun p => if (!decide (p.1.length = 1)) = true then some p else none) (.inr ⟨op, hap⟩) hpp (by omega) (by intros; rfl) (fun x p H6 e6 hx hp => ?_) (fun x p c H6 e6 hx hp hc => ?_) (fun H6 e6 hL6 => ?_)
        · rw [ite_isSome]
          intro H7 e7 Q q
          obtain ⟨y, z, hyz, hy, hz⟩ := kP_at (kP.mono e7.t hx)
          obtain ⟨ya, rfl, hya⟩ := hy
          refine p0_of rfl hyz ⟨ya, _, rfl, .inr (SqT.of hya), rfl, _, rfl, ?_⟩
          refine (congrArg (fun b => Q b H7) ?_).mpr (q _ (Ex.refl _))
          rw [List.length_map]
          by_cases h1 : p.1.length = 1
          · rw [decide_eq_true h1, h1]
            rfl
          · rw [decide_eq_false h1, decide_eq_false fun z => h1 (by injection z with z; omega)]
        · obtain ⟨_, rfl⟩ := ite_some hc
          exact fun H7 e7 Q q => ⟨_, rfl, q _ _ (Ex.refl _) (kP.mono e7.t hx)⟩
        · rw [fm_filter] at hL6
          exact ⟨_, _, rfl, hL6, fun v6 H7 e7 hv6 => hnx _ H7 ⟨v6, _, o7, rfl, B5.ex (e6.trans e7), hv6, (hM0.imp sLF).filter _⟩⟩
      clear hP0 hM0 B4 hts hSx htl hR2
      rintro σ H5 ⟨v6, P, o7', rfl, B5, hP5, hM5⟩
      have pc := mt_pc okF hM5
      have lp := mt_lp okF hM5
      have bf := mt_bfs okF hM5
      obtain ⟨hcs, hmost⟩ := counts_same okF okL same
      have hLl := okL.len
      -- due
      refine ⟨fun σ' H' => σ' = [some (.ref a), some (.ref r), some (.int (i : Int)), some v3, some vp, some (.ref l), some v6, o7', some (.bl (!rings P)), o9, o10, o11, o12, o13, o14, o15, o16, o17] ∧ Bs K S r C F L H' vp (.ref l) ∧ TpP kP H' v6 P, fun nx' hnx => ?_, ?_⟩
      · exact ⟨_, rfl, v6, P, rfl, hP5, pc.rc, bf, fun H' e => ⟨_, rfl, hnx _ _ ⟨rfl, B5.ex e, hP5.mono e.t⟩⟩⟩
      rintro σ H6 ⟨rfl, B6, hP6⟩
      refine ⟨fun σ' H' => σ' = [some (.ref a), some (.ref r), some (.int (i : Int)), some v3, some vp, some (.ref l), some v6, o7', some (.bl (!rings P)), o9, o10, o11, o12, o13, o14, o15, o16, o17] ∧ Bs K S r C F L H' vp (.ref l) ∧ TpP kP H' v6 P, fun nx' hnx => ?_, ?_⟩
      · refine ⟨_, rfl, _, rfl, vp, v6, rfl, .inr ⟨F, B6.ins, okF, .inr ⟨P, hP6, pc, fun H' e => ⟨_, rfl, .inl ⟨.bl (!rings P), ?_, .inl ⟨_, rfl⟩, fun H2 e2 => ⟨true, rfl, iteF (hnx _ _ ⟨rfl, B6.ex (e.trans e2), hP6.mono (e.trans e2).t⟩)⟩⟩⟩⟩⟩⟩
        rw [lp]
        rfl
      rintro σ H7 ⟨rfl, B7, hP7⟩
      -- most
      refine ⟨fun σ' H' => σ' = [some (.ref a), some (.ref r), some (.int (i : Int)), some v3, some vp, some (.ref l), some v6, o7', some (.bl (!rings P)), some (.int (most L : Int)), o10, o11, o12, o13, o14, o15, o16, o17] ∧ Bs K S r C F L H' vp (.ref l) ∧ TpP kP H' v6 P, fun nx' hnx => ?_, ?_⟩
      · obtain ⟨l', lv7, el7, hl7, hlp7⟩ := id B7.ls
        cases el7
        refine ⟨_, rfl, l, rfl, ⟨_, SqL.of hl7⟩, fun D hD => ?_⟩
        refine lcD_lst hD kS kI (fun s => some (s.length : Int)) hl7 hlp7 (by omega) (by intros; rfl) (fun _ _ _ _ _ _ => evb_yes) (fun x p c H8 e8 hx hp hc => ?_) (fun H8 e8 hL8 => ?_)
        · cases hc
          intro H9 e9 Q q
          obtain ⟨xa, rfl, hxa⟩ := hx
          refine ⟨_, rfl, xa, _, rfl, .inr (SqT.of (e9 _ _ hxa)), q _ _ (Ex.refl _) ?_⟩
          show V.int ((p.map V.int).length : Int) = _
          rw [List.length_map]
        rw [fm_map] at hL8
        obtain ⟨l1, el1, hl1⟩ := LsD.ints (K := K) hL8
        cases el1
        refine ⟨by show 1 ≤ sizeLine; decide, fun l2 hl2 => ?_⟩
        have e2 : Ex H8 (upd H8 l2 (.lst [.int 0])) := Ex.new hl2
        refine ⟨D, l2, _, _, rfl, rfl, e2 _ _ hl1, upd_same, ?_, fun l3 hl3 => ?_⟩
        · rw [List.length_map, List.length_map, sizeLine_eq]
          show L.length + 1 ≤ _
          omega
        refine ⟨l3, L.map (fun s => (s.length : Int)) ++ [0], rfl, SqL.of (by rw [upd_same, List.map_append]; rfl), by simp, fun m hm1 hm2 => ?_⟩
        have hm := most_eq hm1 hm2
        subst hm
        have e3 := (e8.trans e2).trans (Ex.new hl3 (o := .lst (List.map V.int (L.map (fun s => (s.length : Int))) ++ [V.int 0])))
        exact hnx _ _ ⟨rfl, B7.ex e3, hP7.mono e3.t⟩
      rintro σ H8 ⟨rfl, B8, hP8⟩
      -- counts
      have hm7 := most_le7 okL
      refine ⟨fun σ' H' => ∃ lc, σ' = [some (.ref a), some (.ref r), some (.int (i : Int)), some v3, some vp, some (.ref l), some v6, o7', some (.bl (!rings P)), some (.int (most L : Int)), o10, some (.ref lc), o12, o13, o14, o15, o16, o17] ∧ Ex H8 H' ∧ H8 lc = none ∧ H' lc = some (.lst ((counts F).map V.int)), fun nx' hnx => ?_, ?_⟩
      · refine ⟨_, rfl, _, rfl, by omega, by omega, ?_⟩
        rw [Int.toNat_natCast]
        intro D hD
        refine lcD_rng hD kI (fun d => some ((L.filter fun s => decide (s.length = d + 1)).length : Int)) (by omega) (by intros; rfl) (fun _ _ _ _ => evb_yes) (fun d c H9 e9 hd hc => ?_) (fun H9 e9 hL9 => ?_)
        · cases hc
          intro H10 e10 Q q
          refine ⟨_, rfl, _, rfl, .ref l, L, d, rfl, B8.ls.ex (e9.trans e10), by omega, fun v H11 e11 hv => ?_⟩
          obtain ⟨lv, us, rfl, hlv, hup⟩ := hv
          refine ⟨lv, _, rfl, .inl (SqL.of hlv), q _ _ e11 ?_⟩
          rw [pr_len hup]
          rfl
        · rw [fm_map, ← hcs] at hL9
          obtain ⟨l1, el1, hl1⟩ := LsD.ints (K := K) hL9
          cases el1
          exact hnx _ _ ⟨D, rfl, e9, hD, hl1⟩
      rintro σ H9 ⟨lc, rfl, e89, hlc0, hlc9⟩
      have hlcr := B8.row.ne hlc0
      refine ⟨fun σ' H' => ∃ o7 o10, σ' = [some (.ref a), some (.ref r), some (.int (i : Int)), some v3, some vp, some (.ref l), some v6, o7, some (.bl (!rings P)), some (.int (most L : Int)), o10, some (.ref lc), o12, o13, o14, o15, o16, o17] ∧ Ro K S r H8 H' ∧ H' lc = some (.lst ((crit (counts F) P).map V.int)), fun nx' hnx => ?_, ?_⟩
      · have hP9 := hP8.mono e89.t
        obtain ⟨ap, op, pvs, rfl, hap, _, hpp⟩ := id hP9
        refine ⟨_, rfl, ap, rfl, ⟨_, SqT.rd (.inr ⟨op, hap⟩)⟩, ?_⟩
        refine forR_tup kP hpp (fun rr σ Hk => TEx H9 Hk ∧ Ro K S r H8 Hk ∧ ∃ o7 o10 c, σ = [some (.ref a), some (.ref r), some (.int (i : Int)), some v3, some vp, some (.ref l), some (.ref ap), o7, some (.bl (!rings P)), some (.int (most L : Int)), o10, some (.ref lc), o12, o13, o14, o15, o16, o17] ∧ Hk lc = some (.lst (c.map V.int)) ∧ c.length = most F ∧ crit c rr = crit (counts F) P)
          ⟨TEx.refl _, e89.ro B8.row, o7', o10, counts F, rfl, hlc9, counts_len F, rfl⟩ (fun rr σ Hk q => ⟨q.1, SqT.rd (q.1.rd (.inr ⟨op, hap⟩))⟩) ?_ ?_
        · rintro p rr x σ Hk hx hpm ⟨et, rk, o7, o10, c, rfl, hlk, hcl, hf⟩
          have hpi := hM5.g p hpm
          obtain ⟨j, hj, ej⟩ := hpi.e
          have h1 : 0 < p.1.length := List.length_pos_iff.mpr (okF.ne _ hpi.a)
          have h2 := most_ge (F := F) p.2.length (List.mem_map.mpr ⟨p.2, hpi.b, rfl⟩)
          have h3 := most_ge (F := F) p.1.length (List.mem_map.mpr ⟨p.1, hpi.a, rfl⟩)
          obtain ⟨y, z, ⟨ax, rfl, hax⟩, hy, hz⟩ := kP_at hx
          refine ⟨_, rfl, ax, rfl, ⟨_, SqT.rd hax⟩, ?_⟩
          have hp2 : Paired (kS.R Hk) [y, z] [p.1, p.2] := .cons hy (.cons hz .nil)
          refine forR_tup kS hp2 (fun r2 σ Hm => TEx Hk Hm ∧ Ro K S r H8 Hm ∧ ∃ o10 c2, σ = [some (.ref a), some (.ref r), some (.int (i : Int)), some v3, some vp, some (.ref l), some (.ref ap), some (.ref ax), some (.bl (!rings P)), some (.int (most L : Int)), o10, some (.ref lc), o12, o13, o14, o15, o16, o17] ∧ Hm lc = some (.lst (c2.map V.int)) ∧ c2.length = most F ∧ r2.foldl (fun c s => bump c s (-1)) c2 = bump (bump c p.1 (-1)) p.2 (-1))
            ⟨TEx.refl _, rk, o10, c, rfl, hlk, hcl, rfl⟩ (fun r2 σ Hm q => ⟨q.1, SqT.rd (q.1.rd hax)⟩) ?_ ?_
          · rintro b r2 w' σ Hm hb hbm ⟨et2, rm, o10, c2, rfl, hlm, hcl2, hf2⟩
            have hb1 : 0 < b.length ∧ b.length ≤ most F := by
              simp at hbm
              rcases hbm with rfl | rfl
              · exact ⟨h1, h3⟩
              · have := hpi.l
                exact ⟨by omega, h2⟩
            have hlt : b.length - 1 < c2.length := by omega
            have hxx : c2[b.length - 1]? = some c2[b.length - 1] := List.getElem?_eq_getElem hlt
            obtain ⟨ya, rfl, hya⟩ := hb
            have hidx : ((b.map V.int).length : Int) - 1 = ((b.length - 1 : Nat) : Int) := by
              rw [List.length_map]
              omega
            refine ⟨_, rfl, _, rfl, ya, _, rfl, .inr (SqT.of hya), _, _, rfl, rfl, lc, _, ((b.map V.int).length : Int) - 1, .int c2[b.length - 1], rfl, rfl, SqL.of hlm, ?_, _, _, rfl, rfl, _, rfl, _, rfl, ya, _, rfl, .inr (SqT.of hya), _, _, rfl, rfl, lc, _, ((b.map V.int).length : Int) - 1, b.length - 1, rfl, rfl, hlm, ?_, ?_⟩
            · rw [hidx]
              exact atI_nat (by rw [List.getElem?_map, hxx]; rfl)
            · rw [hidx, List.length_map]
              exact ixN_of hlt
            have hset : (c2.map V.int).set (b.length - 1) (.int ((fun i j => i - j) c2[b.length - 1] (1 : Int))) = (bump c2 b (-1)).map V.int := bump_set (d := -1) hxx
            show _ ∧ Ro K S r H8 (upd Hm lc (.lst ((c2.map V.int).set (b.length - 1) (.int ((fun i j => i - j) c2[b.length - 1] (1 : Int)))))) ∧ _
            rw [hset]
            refine ⟨?_, rm.mut hlc0, _, bump c2 b (-1), rfl, ?_, by rw [bump_len]; exact hcl2, hf2⟩
            · exact et2.trans (TEx.wrL hlm)
            · show upd Hm lc _ lc = _
              rw [upd_same]
          · rintro σ Hm ⟨et2, rm, o10, c2, rfl, hlm, hcl2, hf2⟩
            have hf2 : c2 = bump (bump c p.1 (-1)) p.2 (-1) := hf2
            refine ⟨et.trans et2, rm, _, o10, c2, rfl, hlm, hcl2, ?_⟩
            rw [hf2]
            exact hf
        · rintro σ Hk ⟨et, rk, o7, o10, c, rfl, hlk, hcl, hf⟩
          have hf : c = crit (counts F) P := hf
          subst hf
          exact hnx _ _ ⟨o7, o10, rfl, rk, hlk⟩
      rintro σ H10 ⟨o7'', o10', rfl, R10, hlc10⟩
      have B10 := B8.ro R10
      have hP10 := hP8.mono R10.n.t
      -- told
      refine ⟨fun σ' H' => ∃ o11, σ' = [some (.ref a), some (.ref r), some (.int (i : Int)), some v3, some vp, some (.ref l), some v6, o7'', some (.bl (!rings P)), some (.int (most L : Int)), o10', o11, o12, o13, o14, o15, o16, o17] ∧ Bs K S r C F L H' vp (.ref l) ∧ TpP kP H' v6 P, fun nx' hnx => ?_, ?_⟩
      · have fin : ∀ H', Ex H10 H' → nx' _ H' := fun H' e => hnx _ H' ⟨some (.ref lc), rfl, B10.ex e, hP10.mono e.t⟩
        refine ⟨_, rfl, _, rfl, vp, v6, rfl, .inr ⟨F, B10.ins, okF, .inr ⟨P, hP10, pc, fun hb H' e => ?_, fun hb z H' e hz => ?_⟩⟩⟩
        · rw [lp] at hb
          refine ⟨_, rfl, _, rfl, ?_⟩
          exact if_f hb (.inl ⟨.str "bad", rfl, .inr (.inr ⟨_, rfl⟩), fun H2 e2 => ⟨true, rfl, iteF (fin H2 (e.trans e2))⟩⟩)
        · rw [lp] at hb
          refine ⟨_, rfl, _, rfl, ?_⟩
          refine if_t hb ⟨_, rfl, lc, _, rfl, e _ _ hlc10, fun u H2 e2 hu => ?_⟩
          have hcl : (crit (counts F) P).length ≤ 1000 := by
            rw [crit_len, counts_len]
            have := most_le7 okF
            omega
          exact .inr ⟨z, u, crit (counts F) P, rfl, (hz.mono e2.t).d.t, hu.t, hcl, fun H3 e3 => ⟨true, rfl, iteF (fin H3 ((e.trans e2).trans e3))⟩⟩
      rintro σ H11 ⟨o11', rfl, B11, hP11⟩
      obtain ⟨ap, op, pvs, rfl, hap, hod, hpp⟩ := id hP11
      have hPf := pc.rc.few
      have hpvl := pr_len hpp
      -- odd = [None, ..]
      refine ⟨fun σ' H' => ∃ lo vs, σ' = [some (.ref a), some (.ref r), some (.int (i : Int)), some v3, some vp, some (.ref l), some (.ref ap), o7'', some (.bl (!rings P)), some (.int (most L : Int)), o10', o11', o12, some (.ref lo), o14, o15, o16, o17] ∧ Bs K S r C F L H' vp (.ref l) ∧ TpP kP H' (.ref ap) P ∧ H' lo = some (.lst vs) ∧ vs.length = 7 ∧ (∀ v ∈ vs, OddL [r] F H' v), fun nx' hnx => ?_, ?_⟩
      · refine ⟨_, rfl, ap, pvs, rfl, .inr (SqT.rd (.inr ⟨op, hap⟩)), fun l0 hl0 => ?_⟩
        have e1 : Ex H11 (upd H11 l0 (.lst pvs)) := Ex.new hl0
        have hl0r : l0 ≠ r := B11.row.ne hl0
        have q2 : OddL [r] F (upd H11 l0 (.lst pvs)) (.ref l0) := .inr (.inr (.inl ⟨l0, pvs, rfl, fun z => hl0r (List.mem_singleton.mp z), upd_same⟩))
        generalize upd H11 l0 (.lst pvs) = H12 at e1 q2
        -- pairs + (None,)
        refine ⟨_, rfl, by show 1 ≤ sizeLine; decide, fun t3 ht3 => ?_⟩
        have e2 : Ex H12 (upd H12 t3 (.tup [.non])) := Ex.new ht3
        refine ⟨pvs, [.non], ⟨ap, rfl, .inr ⟨op, (e1.trans e2) _ _ hap⟩⟩, ⟨t3, rfl, .inl upd_same⟩, by show pvs.length + 1 ≤ _; omega, fun u3 H13 e3 hu3 => ?_⟩
        have e13 := (e1.trans e2).trans e3
        have q3 : OddL [r] F H13 u3 := .inr (.inr (.inr ⟨_, prs P ++ [.bad], hu3, pr_append (pr_RIL (pr_kmono kP e13.t hpp)) (.cons (ril_non _ _) .nil), ic_snoc pc (fun p z => by cases z), odd_bad (badN F) _ _ _⟩))
        have q2 := q2.ex (e2.trans e3)
        -- three pairs
        refine cat_pr r [29] [28, 29] rfl (hP11.mono e13.t) (by decide) (by decide) hPf fun u4 H14 e4 hu4 => ?_
        obtain ⟨x4, hx4, hp4⟩ := hu4
        have q4 : OddL [r] F H14 u4 := .inr (.inr (.inr ⟨_, _, hx4, hp4, ic_snoc pc (fun p z => by cases z; exact ⟨by decide, by decide, fun z => absurd z (by decide +kernel)⟩), odd_bad (badA fun z => absurd (okF.a7 _ z) (by decide +kernel)) _ _ _⟩))
        have q2 := q2.ex e4
        have q3 := q3.ex e4
        have e14 := e13.trans e4
        refine cat_pr r [0] [0, 1, 2] rfl (hP11.mono e14.t) (by decide) (by decide) hPf fun u5 H15 e5 hu5 => ?_
        obtain ⟨x5, hx5, hp5⟩ := hu5
        have q5 : OddL [r] F H15 u5 := .inr (.inr (.inr ⟨_, _, hx5, hp5, ic_snoc pc (fun p z => by cases z; exact ⟨by decide, by decide, fun _ => by decide +kernel⟩), odd_bad (badB (by decide)) _ _ _⟩))
        have q2 := q2.ex e5
        have q3 := q3.ex e5
        have q4 := q4.ex e5
        have e15 := e14.trans e5
        refine cat_pr r [0] [1, 2] rfl (hP11.mono e15.t) (by decide) (by decide) hPf fun u6 H16 e6 hu6 => ?_
        obtain ⟨x6, hx6, hp6⟩ := hu6
        have q6 : OddL [r] F H16 u6 := .inr (.inr (.inr ⟨_, _, hx6, hp6, ic_snoc pc (fun p z => by cases z; exact ⟨by decide, by decide, fun _ => by decide +kernel⟩), odd_bad (badC (by decide)) _ _ _⟩))
        have q2 := q2.ex e6
        have q3 := q3.ex e6
        have q4 := q4.ex e6
        have q5 := q5.ex e6
        have e16 := e15.trans e6
        refine ⟨by show 7 ≤ sizeLine; decide, fun lo hlo => ?_⟩
        have e7 : Ex H16 (upd H16 lo (.lst [.non, .ref l0, u3, u4, u5, u6, .int 5])) := Ex.new hlo
        refine hnx _ _ ⟨lo, _, rfl, B11.ex (e16.trans e7), hP11.mono (e16.trans e7).t, upd_same, rfl, fun v hv => ?_⟩
        refine OddL.ex e7 ?_
        simp only [List.mem_cons, List.not_mem_nil, or_false] at hv
        rcases hv with rfl | rfl | rfl | rfl | rfl | rfl | rfl
        · exact .inl rfl
        · exact q2
        · exact q3
        · exact q4
        · exact q5
        · exact q6
        · exact .inr (.inl ⟨5, rfl⟩)
      rintro σ H12 ⟨lo1, vs1, rfl, B12, hP12, hlo1, hvl1, ho1⟩
      -- odd = odd + ..
      clear hap hod hpp hpvl
      obtain ⟨ap', op2, pvs2, eA, hap2, _, hpp2⟩ := id hP12
      cases eA
      have hpvl2 := pr_len hpp2
      refine ⟨fun σ' H' => ∃ lo vs, σ' = [some (.ref a), some (.ref r), some (.int (i : Int)), some v3, some vp, some (.ref l), some (.ref ap), o7'', some (.bl (!rings P)), some (.int (most L : Int)), o10', o11', o12, some (.ref lo), o14, o15, o16, o17] ∧ H12 lo = none ∧ Ro K S r H12 H' ∧ OL r l F H' lo vs ∧ vs.length ≤ 10, fun nx' hnx => ?_, ?_⟩
      · have cl := cutV_len pvs2 none (some 1)
        refine ⟨_, rfl, _, rfl, _, rfl, _, rfl, pvs2, ⟨ap, rfl, .inr ⟨op2, hap2⟩⟩, fun v1 H13 e1 h1 => ?_⟩
        refine ⟨pvs2, _, ⟨ap, rfl, .inr ⟨op2, e1 _ _ hap2⟩⟩, h1, by omega, fun u H14 e2 hu => ?_⟩
        have e12' := e1.trans e2
        have hodd : P ≠ [] → OddL [r] F H14 u := fun hne => by
          cases hPc : P with
          | nil => exact absurd hPc hne
          | cons p P' =>
            rw [hPc] at hpp2
            cases hpp2 with
            | @cons x _ xs _ rr tt =>
            have hcut : cutV (x :: xs) none (some 1) = [x] := by
              rw [show (1 : Int) = ((1 : Nat) : Int) from rfl, cut_pre _ 1 (by simp)]
              rfl
            rw [hcut] at hu
            have pc' : PC (p :: P') := hPc ▸ pc
            refine .inr (.inr (.inr ⟨_, prs (p :: P') ++ [.pr p], hu, pr_append (pr_RIL (pr_kmono kP e12'.t (.cons rr tt))) (.cons (show RIL [r] H14 x (.pr p) from kP.mono e12'.t rr) .nil), ic_snoc pc' (fun q z => ?_), odd_twice (.inl rfl) _ _ _ ?_⟩))
            · cases z
              exact pc'.g p List.mem_cons_self
            · exact List.mem_map.mpr ⟨p, List.mem_cons_self, rfl⟩
        refine ⟨by show 1 ≤ sizeLine; decide, fun la hla => ?_⟩
        have e3 : Ex H14 (upd H14 la (.lst [u])) := Ex.new hla
        refine ⟨_, rfl, Nat.zero_le _, fun t0 ht0 => ?_⟩
        have e4 := e3.trans (Ex.new ht0 (o := .tup []))
        have hla4 := (Ex.new ht0 (o := .tup [])) _ _ (upd_same (H := H14) (a := la) (o := .lst [u]))
        have e14 := e12'.trans e4
        refine ⟨P, [], (kTp kP).mono e14.t hP12.tp, ⟨t0, [], rfl, .inl upd_same, .nil⟩, .inr ⟨_, rfl, ?_⟩⟩
        generalize upd (upd H14 la (.lst [u])) t0 (.tup []) = H15 at e4 hla4 e14 ⊢
        have hk : ∃ n : Nat, n ≤ 1 ∧ (if (!decide (P = [])) = true then (1 : Int) else 0) = (n : Int) ∧ (n = 1 → P ≠ []) := by
          by_cases hPe : P = []
          · exact ⟨0, by omega, by simp [hPe], by omega⟩
          · exact ⟨1, by omega, by simp [hPe], fun _ => hPe⟩
        obtain ⟨n, hn1, hnk, hnP⟩ := hk
        refine ⟨la, (n : Int), [u], rfl, congrArg V.int hnk, hla4, by omega, by omega, by rw [sizeLine_eq, Int.toNat_natCast]; show 1 * n ≤ _; omega, fun lb hlb => ?_⟩
        have hcs : ∀ v ∈ (List.replicate (n : Int).toNat [u]).flatten, v = u ∧ P ≠ [] := fun v hv => by
          rw [Int.toNat_natCast] at hv
          have h01 : n = 0 ∨ n = 1 := by omega
          rcases h01 with rfl | rfl
          · cases hv
          · exact ⟨by simpa using hv, hnP rfl⟩
        have hcl : (List.replicate (n : Int).toNat [u]).flatten.length ≤ 1 := by
          rw [Int.toNat_natCast]
          have h01 : n = 0 ∨ n = 1 := by omega
          rcases h01 with rfl | rfl
          · exact Nat.zero_le _
          · exact Nat.le_refl _
        have e5 : Ex H15 (upd H15 lb (.lst (List.replicate (n : Int).toNat [u]).flatten)) := Ex.new hlb
        have hlb5 : upd H15 lb (.lst (List.replicate (n : Int).toNat [u]).flatten) lb = some (.lst (List.replicate (n : Int).toNat [u]).flatten) := upd_same
        generalize (List.replicate (n : Int).toNat [u]).flatten = cs at hcs hcl e5 hlb5 ⊢
        generalize upd H15 lb (.lst cs) = H16 at e5 hlb5 ⊢
        have e16 := e14.trans e5
        refine ⟨lo1, lb, _, _, rfl, rfl, e16 _ _ hlo1, hlb5, by rw [sizeLine_eq]; omega, fun lc2 hlc2 => ?_⟩
        have e6 : Ex H16 (upd H16 lc2 (.lst (vs1 ++ cs))) := Ex.new hlc2
        have hlc6 : upd H16 lc2 (.lst (vs1 ++ cs)) lc2 = some (.lst (vs1 ++ cs)) := upd_same
        generalize upd H16 lc2 (.lst (vs1 ++ cs)) = H17 at e6 hlc6 ⊢
        refine ⟨_, rfl, ?_⟩
        refine ⟨by show 1 ≤ sizeLine; decide, fun a1 ha1 => ?_⟩
        have f1 := Ex.new ha1 (o := .tup (([0] : Sx).map V.int))
        refine ⟨by show 2 ≤ sizeLine; decide, fun a2 ha2 => ?_⟩
        have f2 := f1.trans (Ex.new ha2 (o := .tup (([0, 1] : Sx).map V.int)))
        refine ⟨by show 2 ≤ sizeLine; decide, fun lx hlx => ?_⟩
        have f3 := f2.trans (Ex.new hlx (o := .lst [.ref a1, .ref a2]))
        have hlx3 : upd _ lx (.lst [.ref a1, .ref a2]) lx = some (.lst [.ref a1, .ref a2]) := upd_same (H := upd (upd H17 a1 (.tup (([0] : Sx).map V.int))) a2 (.tup (([0, 1] : Sx).map V.int)))
        refine ⟨by show 1 ≤ sizeLine; decide, fun t5 ht5 => ?_⟩
        have f4 := f3.trans (Ex.new ht5 (o := .tup [.ref lx]))
        have hlx4 := (Ex.new ht5 (o := .tup [.ref lx])) _ _ hlx3
        have e17 := (e16.trans e6)
        have e18 := e17.trans f4
        have hlxr : lx ≠ r := (B12.row.ex (e17.trans f2)).ne hlx
        refine ⟨pvs2, [.ref lx], ⟨ap, rfl, .inr ⟨op2, e18 _ _ hap2⟩⟩, ⟨t5, rfl, .inl upd_same⟩, by show pvs2.length + 1 ≤ _; omega, fun u2 H19 e7 hu2 => ?_⟩
        have e19 := e18.trans e7
        have hodd2 : OddL [r] F H19 u2 := .inr (.inr (.inr ⟨_, prs P ++ [.bad], hu2, pr_append (pr_RIL (pr_kmono kP e19.t hpp2)) (.cons (show RIL [r] H19 (.ref lx) .bad from Or.inr ⟨lx, _, rfl, fun z => hlxr (List.mem_singleton.mp z), e7 _ _ hlx4⟩) .nil), ic_snoc pc (fun p z => by cases z), odd_bad (badN F) _ _ _⟩))
        refine ⟨by show 1 ≤ sizeLine; decide, fun ld hld => ?_⟩
        have e8 : Ex H19 (upd H19 ld (.lst [u2])) := Ex.new hld
        have e68 := (f4.trans e7).trans e8
        refine ⟨lc2, ld, _, _, rfl, rfl, e68 _ _ hlc6, upd_same, by rw [List.length_append, sizeLine_eq]; show vs1.length + cs.length + 1 ≤ _; omega, fun le hle => ?_⟩
        have e20 := e19.trans e8
        have e9 : Ex (upd H19 ld (.lst [u2])) (upd (upd H19 ld (.lst [u2])) le (.lst (vs1 ++ cs ++ [u2]))) := Ex.new hle
        have hle0 := e20.back hle
        refine hnx _ _ ⟨le, vs1 ++ cs ++ [u2], rfl, hle0, (e20.trans e9).ro B12.row, ⟨upd_same, by simp, by rw [List.length_append, List.length_append]; show vs1.length + cs.length + 1 ≤ 20; omega, fun v hv => ?_, B12.row.ne hle0, fun z => ?_⟩, by rw [List.length_append, List.length_append]; show vs1.length + cs.length + 1 ≤ 10; omega⟩
        · refine OddL.ex e9 (OddL.more hle ?_)
          rcases List.mem_append.mp hv with hv | hv
          · rcases List.mem_append.mp hv with hv | hv
            · exact (ho1 v hv).ex e20
            · obtain ⟨rfl, hne⟩ := hcs v hv
              exact (hodd hne).ex (((e4.trans e5).trans e6).trans e68)
          · rw [List.mem_singleton.mp hv]
            exact hodd2.ex e8
        · obtain ⟨l', lv, el, hl, _⟩ := B12.ls
          cases el
          rw [z, hl] at hle0
          cases hle0
      rintro σ H13 ⟨lo, vs, rfl, hlo0, R13, OL13, hvs10⟩
      -- big
      refine ⟨fun σ' H' => ∃ vb b, σ' = [some (.ref a), some (.ref r), some (.int (i : Int)), some v3, some vp, some (.ref l), some (.ref ap), o7'', some (.bl (!rings P)), some (.int (most L : Int)), o10', o11', o12, some (.ref lo), some vb, o15, o16, o17] ∧ Ro K S r H12 H' ∧ OL r l F H' lo vs ∧ IsS H' vb b ∧ b ∈ all7 ∧ 1 < b.length, fun nx' hnx => ?_, ?_⟩
      · have B13 := B12.ro R13
        obtain ⟨l', lv, el, hl13, hlp⟩ := id B13.ls
        cases el
        have hlpl := pr_len hlp
        refine ⟨_, rfl, _, rfl, l, rfl, ⟨_, SqL.of hl13⟩, fun D hD => ?_⟩
        refine lcD_lst hD kS kS (fun s => if decide ((s.length : Int) > 1) = true then some s else none) hl13 hlp (by omega) (by intros; rfl) (fun x p H14 e14 hx hp => ?_) (fun x p c H14 e14 hx hp hc => ?_) (fun H14 e14 hL14 => ?_)
        · rw [ite_isSome]
          intro H15 e15 Q q
          obtain ⟨xa, rfl, hxa⟩ := hx.mono e15.t
          refine ⟨_, rfl, xa, _, rfl, .inr (SqT.of hxa), _, _, rfl, rfl, _, rfl, ?_⟩
          rw [List.length_map]
          exact q _ (Ex.refl _)
        · obtain ⟨_, rfl⟩ := ite_some hc
          exact fun H15 e15 Q q => ⟨_, rfl, q _ _ (Ex.refl _) (hx.mono e15.t)⟩
        rw [fm_filter] at hL14
        refine ⟨by show 2 ≤ sizeLine; decide, fun a1 ha1 => ?_⟩
        have f1 : Ex H14 (upd H14 a1 (.tup [.int 0, .int 1])) := Ex.new ha1
        have hs1 : IsS (upd H14 a1 (.tup [.int 0, .int 1])) (.ref a1) [0, 1] := ⟨a1, rfl, upd_same⟩
        generalize upd H14 a1 (.tup [.int 0, .int 1]) = H15 at f1 hs1 ⊢
        refine ⟨by show 1 ≤ sizeLine; decide, fun ly hly => ?_⟩
        have f2 : Ex H15 (upd H15 ly (.lst [.ref a1])) := Ex.new hly
        have hly2 : upd H15 ly (.lst [.ref a1]) ly = some (.lst [.ref a1]) := upd_same
        generalize upd H15 ly (.lst [.ref a1]) = H16 at f2 hly2 ⊢
        obtain ⟨D', dv, eD, hDl, hDp⟩ := hL14.ex (f1.trans f2)
        cases eD
        have hdl := pr_len hDp
        have hfl := List.length_filter_le (fun s : Sx => decide ((s.length : Int) > 1)) L
        refine ⟨D, ly, dv, _, rfl, rfl, hDl, hly2, by rw [sizeLine_eq]; show dv.length + 1 ≤ _; omega, fun lz hlz => ?_⟩
        have f3 : Ex H16 (upd H16 lz (.lst (dv ++ [.ref a1]))) := Ex.new hlz
        have e17 := (e14.trans (f1.trans f2)).trans f3
        have hall : Paired (kS.R (upd H16 lz (.lst (dv ++ [.ref a1])))) (dv ++ [.ref a1]) (L.filter (fun s => decide ((s.length : Int) > 1)) ++ [[0, 1]]) := pr_snoc (pr_kmono kS f3.t hDp) (hs1.mono (f2.trans f3).t)
        refine ⟨S, r, lz, dv ++ [.ref a1], rfl, B13.row.ex e17, upd_same, (B13.row.ex (e14.trans (f1.trans f2))).ne hlz, by simp, by rw [List.length_append]; show dv.length + 1 ≤ _; omega, fun n v H18 hv R18 => ?_⟩
        obtain ⟨b, hbi, hbR⟩ := pr_get hall hv
        have hbm := List.mem_of_getElem? hbi
        have hb7 : b ∈ all7 ∧ 1 < b.length := by
          rcases List.mem_append.mp hbm with h | h
          · have h1 := List.mem_filter.mp h
            have h2 := of_decide_eq_true h1.2
            exact ⟨okL.a7 _ h1.1, by omega⟩
          · rw [List.mem_singleton.mp h]
            exact ⟨by decide +kernel, by decide⟩
        exact hnx _ _ ⟨v, b, rfl, (R13.ex e17).trans R18, (OL13.ex e17).ro R18, IsS.mono R18.n.t hbR, hb7⟩
      rintro σ H14 ⟨vb, b, rfl, R14, OL14, hb14, hb7, hb1⟩
      obtain ⟨c1, c2, c3⟩ := cut7 b hb7 hb1
      have hbl := a7_len hb7
      have hbne : b ≠ [] := fun z => by rw [z] at hb1; cases hb1
      have gb := a7_good hb7 hbne
      have hd1 : cutV (b.map V.int) (some 1) none = (b.drop 1).map V.int := by
        rw [show (1 : Int) = ((1 : Nat) : Int) from rfl, cut_post _ 1 (by rw [List.length_map]; omega), List.map_drop]
      have hd2 : 2 < b.length → cutV (b.map V.int) (some 2) none = (b.drop 2).map V.int := fun h => by
        rw [show (2 : Int) = ((2 : Nat) : Int) from rfl, cut_post _ 2 (by rw [List.length_map]; omega), List.map_drop]
      have hdl : cutV (b.map V.int) none (some (-1)) = b.dropLast.map V.int := by
        rw [cut_butlast _ (by rw [List.length_map]; omega), List.map_dropLast]
      -- odd.append(..)
      refine ⟨fun σ' H' => ∃ vs', σ' = [some (.ref a), some (.ref r), some (.int (i : Int)), some v3, some vp, some (.ref l), some (.ref ap), o7'', some (.bl (!rings P)), some (.int (most L : Int)), o10', o11', o12, some (.ref lo), some vb, o15, o16, o17] ∧ Ro K S r H12 H' ∧ OL r l F H' lo vs' ∧ vs'.length ≤ 19 ∧ IsS H' vb b, fun nx' hnx => ?_, ?_⟩
      · obtain ⟨ba, rfl, hba⟩ := id hb14
        refine ⟨_, rfl, .inl ⟨rfl, _, SqL.of OL14.h0⟩, ?_⟩
        refine ⟨_, rfl, _, rfl, _, hb14.d, fun v1 H15 e1 h1 => ⟨_, rfl, by show 2 ≤ sizeLine; decide, fun t1 ht1 => ?_⟩⟩
        rw [hd1] at h1
        have h1 : IsS H15 v1 (b.drop 1) := h1
        have f1 : Ex H15 (upd H15 t1 (.tup [v1, .ref ba])) := Ex.new ht1
        have k1 : kP.R (upd H15 t1 (.tup [v1, .ref ba])) (.ref t1) (b.drop 1, b) := ⟨t1, v1, .ref ba, rfl, upd_same, h1.mono f1.t, hb14.mono (e1.trans f1).t⟩
        generalize upd H15 t1 (.tup [v1, .ref ba]) = H16 at f1 k1 ⊢
        have e16 := e1.trans f1
        refine ⟨_, rfl, 1, rfl, -1, rfl, _, (hb14.mono e16.t).d, fun v2 H17 e2 h2 => ⟨_, rfl, by show 2 ≤ sizeLine; decide, fun t2 ht2 => ?_⟩⟩
        rw [hdl] at h2
        have h2 : IsS H17 v2 b.dropLast := h2
        have f2 : Ex H17 (upd H17 t2 (.tup [v2, .ref ba])) := Ex.new ht2
        have e17 := e2.trans f2
        have k2 : kP.R (upd H17 t2 (.tup [v2, .ref ba])) (.ref t2) (b.dropLast, b) := ⟨t2, v2, .ref ba, rfl, upd_same, h2.mono f2.t, hb14.mono (e16.trans e17).t⟩
        generalize upd H17 t2 (.tup [v2, .ref ba]) = H18 at f2 k2 e17 ⊢
        refine ⟨by show 2 ≤ sizeLine; decide, fun t3 ht3 => ?_⟩
        have f3 : Ex H18 (upd H18 t3 (.tup [.ref t1, .ref t2])) := Ex.new ht3
        have e18 := (e16.trans e17).trans f3
        have od : OddL [r, lo] F (upd H18 t3 (.tup [.ref t1, .ref t2])) (.ref t3) := odd_two upd_same (kP.mono (e17.trans f3).t k1) (kP.mono f3.t k2) ⟨a7_good c1.1 c1.2, gb, fun _ => c1.1⟩ ⟨a7_good c2.1 c2.2, gb, fun _ => c2.1⟩ (.inr (.inr (.inr rfl)))
        have OL18 := OL14.ex e18
        refine ⟨lo, _, .ref t3, rfl, rfl, OL18.h0, sz5l (by have := OL18.len; omega), ?_⟩
        exact hnx _ _ ⟨_, rfl, (R14.ex e18).mut hlo0, OL18.app od (by omega), by rw [List.length_append]; show vs.length + 1 ≤ 19; omega, hb14.mono (e18.t.trans (TEx.wrL OL18.h0))⟩
      rintro σ H15 ⟨vs', rfl, R15, OL15, hvs', hb15⟩
      refine ⟨fun σ' H' => ∃ vs', σ' = [some (.ref a), some (.ref r), some (.int (i : Int)), some v3, some vp, some (.ref l), some (.ref ap), o7'', some (.bl (!rings P)), some (.int (most L : Int)), o10', o11', o12, some (.ref lo), some vb, o15, o16, o17] ∧ Ro K S r H12 H' ∧ OL r l F H' lo vs', fun nx' hnx => ?_, ?_⟩
      · obtain ⟨ba, rfl, hba⟩ := id hb15
        refine ⟨_, rfl, ba, _, rfl, .inr (SqT.of hba), _, _, rfl, rfl, _, rfl, ?_⟩
        rw [List.length_map]
        by_cases hb2 : 2 < b.length
        case neg => exact if_f (decide_eq_false (by omega)) (hnx _ _ ⟨vs', rfl, R15, OL15⟩)
        have c4 := c3 hb2
        refine if_t (decide_eq_true (by omega)) ?_
        refine ⟨_, rfl, .inl ⟨rfl, _, SqL.of OL15.h0⟩, ?_⟩
        refine ⟨_, rfl, _, rfl, _, hb15.d, fun v1 H16 e1 h1 => ⟨_, rfl, by show 2 ≤ sizeLine; decide, fun t1 ht1 => ?_⟩⟩
        rw [hd1] at h1
        have h1 : IsS H16 v1 (b.drop 1) := h1
        have f1 : Ex H16 (upd H16 t1 (.tup [v1, .ref ba])) := Ex.new ht1
        have k1 : kP.R (upd H16 t1 (.tup [v1, .ref ba])) (.ref t1) (b.drop 1, b) := ⟨t1, v1, .ref ba, rfl, upd_same, h1.mono f1.t, hb15.mono (e1.trans f1).t⟩
        generalize upd H16 t1 (.tup [v1, .ref ba]) = H17 at f1 k1 ⊢
        have e16 := e1.trans f1
        refine ⟨_, rfl, _, rfl, _, (hb15.mono e16.t).d, fun v2 H18 e2 h2 => ?_⟩
        rw [hd2 hb2] at h2
        have h2 : IsS H18 v2 (b.drop 2) := h2
        refine ⟨_, rfl, _, rfl, _, (hb15.mono (e16.trans e2).t).d, fun v4 H19 e4 h4 => ⟨by show 2 ≤ sizeLine; decide, fun t2 ht2 => ?_⟩⟩
        rw [hd1] at h4
        have h4 : IsS H19 v4 (b.drop 1) := h4
        have f2 : Ex H19 (upd H19 t2 (.tup [v2, v4])) := Ex.new ht2
        have e17 := (e2.trans e4).trans f2
        have k2 : kP.R (upd H19 t2 (.tup [v2, v4])) (.ref t2) (b.drop 2, b.drop 1) := ⟨t2, v2, v4, rfl, upd_same, h2.mono (e4.trans f2).t, h4.mono f2.t⟩
        generalize upd H19 t2 (.tup [v2, v4]) = H20 at f2 k2 e17 ⊢
        refine ⟨by show 2 ≤ sizeLine; decide, fun t3 ht3 => ?_⟩
        have f3 : Ex H20 (upd H20 t3 (.tup [.ref t1, .ref t2])) := Ex.new ht3
        have e18 := (e16.trans e17).trans f3
        have od : OddL [r, lo] F (upd H20 t3 (.tup [.ref t1, .ref t2])) (.ref t3) := odd_two upd_same (kP.mono (e17.trans f3).t k1) (kP.mono f3.t k2) ⟨a7_good c1.1 c1.2, gb, fun _ => c1.1⟩ ⟨a7_good c4.1 c4.2, a7_good c1.1 c1.2, fun _ => c4.1⟩ (.inr (.inl rfl))
        have OL18 := OL15.ex e18
        refine ⟨lo, _, .ref t3, rfl, rfl, OL18.h0, sz5l (by have := OL18.len; omega), ?_⟩
        exact hnx _ _ ⟨_, rfl, (R15.ex e18).mut hlo0, OL18.app od (by omega)⟩
      rintro σ H16 ⟨vs2, rfl, R16, OL16⟩
      -- value
      refine ⟨fun σ' H' => ∃ vv, σ' = [some (.ref a), some (.ref r), some (.int (i : Int)), some v3, some vp, some (.ref l), some (.ref ap), o7'', some (.bl (!rings P)), some (.int (most L : Int)), o10', o11', o12, some (.ref lo), some vb, some vv, o16, o17] ∧ Bs K S r C F L H' vp (.ref l) ∧ OddL [r, lo] F H' vv, fun nx' hnx => ?_, ?_⟩
      · have B16 := B12.ro R16
        have hv2 := OL16.len
        refine ⟨_, rfl, _, rfl, _, rfl, S, r, lo, vs2, rfl, B16.row, OL16.h0, OL16.nr, OL16.ne, by omega, fun n v H17 hv R17 => ?_⟩
        have OL17 := OL16.ro R17
        have o1 := OL17.od v (List.mem_of_getElem? hv)
        obtain ⟨init, w', hiw⟩ : ∃ init w', vs2 = init ++ [w'] := ⟨_, _, (List.dropLast_concat_getLast OL16.ne).symm⟩
        have o2 := OL17.od w' (by rw [hiw]; simp)
        refine ⟨_, rfl, 1, rfl, lo, vs2, -1, w', rfl, rfl, SqL.of OL17.h0, by rw [hiw]; exact atI_last _ _, ?_⟩
        refine ⟨by show 2 ≤ sizeLine; decide, fun lz hlz => ?_⟩
        have f1 : Ex H17 (upd H17 lz (.lst [v, w'])) := Ex.new hlz
        refine ⟨S, r, lz, [v, w'], rfl, R17.r.ex f1, upd_same, R17.r.ne hlz, by simp, by show 2 ≤ 1000000; decide, fun n2 v2 H18 hv2 R18 => ?_⟩
        have hm : v2 = v ∨ v2 = w' := by simpa using List.mem_of_getElem? hv2
        have fr : Fr [r, lo] (upd H17 lz (.lst [v, w'])) H18 := fun b o nb hb => R18.f b o (fun z => nb (by rw [z]; exact List.mem_cons_self)) hb
        refine hnx _ _ ⟨v2, rfl, ((B16.ro R17).ex f1).ro R18, ?_⟩
        rcases hm with rfl | rfl
        · exact (o1.ex f1).mono fr R18.n.t
        · exact (o2.ex f1).mono fr R18.n.t
      rintro σ H17 ⟨vv, rfl, B17, hvv⟩
      -- is_loopless(value) is not False ..
      refine ⟨fun σ' H' => σ' = [some (.ref a), some (.ref r), some (.int (i : Int)), some v3, some vp, some (.ref l), some (.ref ap), o7'', some (.bl (!rings P)), some (.int (most L : Int)), o10', o11', o12, some (.ref lo), some vb, some vv, o16, o17] ∧ Bs K S r C F L H' vp (.ref l), fun nx' hnx => ?_, ?_⟩
      · refine ⟨_, rfl, _, rfl, vp, vv, rfl, .inr ⟨F, B17.ins, okF, .inl ⟨hvv.odd, fun H18 e18 => ⟨false, false, rfl, rfl, _, rfl, if_f (by decide) ?_⟩⟩⟩⟩
        have B18 := B17.ex e18
        refine ⟨_, rfl, _, rfl, vp, vv, rfl, .inr ⟨F, B18.ins, okF, .inl ⟨(hvv.ex e18).odd, fun H19 e19 => ⟨rfl, _, rfl, if_f (by decide) ?_⟩⟩⟩⟩
        exact hnx _ _ ⟨rfl, B18.ex e19⟩
      rintro σ H18 ⟨rfl, B18⟩
      -- steps, left
      obtain ⟨stp, sle, spc, slp, okG, hGl, hcrit⟩ := coll_facts okF cloF
      refine ⟨fun σ' H' => ∃ vst vlf, σ' = [some (.ref a), some (.ref r), some (.int (i : Int)), some v3, some vp, some (.ref l), some (.ref ap), o7'', some (.bl (!rings P)), some (.int (most L : Int)), o10', o11', o12, some (.ref lo), some vb, some vv, some vst, some vlf] ∧ Bs K S r C F L H' vp (.ref l) ∧ TpP kP H' vst (coll F) ∧ IsS H' vlf (counts (madeM (leftM F (coll F)))), fun nx' hnx => ?_, ?_⟩
      · refine ⟨_, rfl, vp, F, rfl, B18.ins, okF, cloF, stp, fun v H19 e19 hv => ?_⟩
        have B19 := B18.ex e19
        refine ⟨_, rfl, vp, F, rfl, B19.ins, okF, cloF, stp, sle, fun p H20 e20 hI2 => ?_⟩
        refine ⟨.ref p, _, rfl, hI2, okG, fun u H21 e21 hu => ⟨_, _, rfl, ?_⟩⟩
        have ee := e20.trans e21
        exact hnx _ _ ⟨v, u, rfl, B19.ex ee, hv.mono ee.t, hu⟩
      generalize madeM (leftM F (coll F)) = G at okG hGl hcrit
      rintro σ H19 ⟨vst, vlf, rfl, B19, hst, hlf⟩
      have hFl7 := most_le7 okF
      have hcF := counts_len F
      have fin : ∀ H', Ex H19 H' → Row K S H' r := fun H' e => B19.row.ex e
      refine ⟨_, rfl, _, rfl, vp, vst, rfl, .inr ⟨F, B19.ins, okF, .inr ⟨coll F, hst, spc, (fun hb => by rw [slp] at hb; cases hb), fun _ z H20 e20 hz => ?_⟩⟩⟩
      have hzl : (crit (counts F) (coll F)).length ≤ 1000 := by
        rw [crit_len]
        omega
      obtain ⟨la, rfl, hla⟩ := id hlf
      refine ⟨_, rfl, by show 1 ≤ sizeLine; decide, fun t0 ht0 => ?_⟩
      have e21 : Ex H20 (upd H20 t0 (.tup [.int 0])) := Ex.new ht0
      have ht00 : upd H20 t0 (.tup [.int 0]) t0 = some (.tup [.int 0]) := upd_same
      generalize upd H20 t0 (.tup [.int 0]) = H21 at e21 ht00 ⊢
      have e19 := e20.trans e21
      refine ⟨_, rfl, vp, F, rfl, (B19.ex e19).ins, okF, fun u H22 e22 hu => ?_⟩
      obtain ⟨ua, rfl, hua⟩ := hu
      have e192 := e19.trans e22
      refine ⟨ua, _, rfl, .inr (SqT.of hua), _, rfl, la, _, rfl, .inr (SqT.of (e192 _ _ hla)), _, _, rfl, rfl, ?_⟩
      have hlm : ∀ s : List Int, (s.map V.int).length = s.length := fun s => List.length_map _
      refine ⟨(counts F).length - (counts G).length, [.int 0], ⟨t0, rfl, .inl (e22 _ _ ht00)⟩, ?_, by simp, by omega, by show 1 ≤ 1000; decide, fun w1 H23 e23 hw1 => ?_⟩
      · show V.int (((counts F).map V.int).length - ((counts G).map V.int).length : Int) = _
        rw [hlm, hlm]
        congr 1
        omega
      have hrep : (List.replicate ((counts F).length - (counts G).length) [V.int 0]).flatten = (List.replicate ((counts F).length - (counts G).length) (0 : Int)).map V.int := by
        rw [List.map_replicate]
        induction (counts F).length - (counts G).length with
        | zero => rfl
        | succ n ih => rw [List.replicate_succ, List.flatten_cons, ih, List.replicate_succ]; rfl
      rw [hrep] at hw1
      have e193 := e192.trans e23
      refine ⟨_, _, (hlf.mono e193.t).d.t, hw1, by rw [hlm, hlm, List.length_replicate]; omega, fun w2 H24 e24 hw2 => ?_⟩
      have e194 := e193.trans e24
      rw [← List.map_append, ← hcrit] at hw2
      refine .inr ⟨z, w2, crit (counts F) (coll F), rfl, (hz.mono (e21.trans ((e22.trans e23).trans e24)).t).d.t, hw2, hzl, fun H25 e25 => ⟨true, rfl, iteF ?_⟩⟩
      exact ⟨fin _ (e194.trans e25), _, _, _, _, _, _, _, _, _, _, _, _, _, _, _, _, rfl⟩
    · rintro σ H' ⟨hR, o2, o3, o4, o5, o6, o7, o8, o9, o10, o11, o12, o13, o14, o15, o16, o17, rfl⟩
      refine ⟨_, rfl, by show 2 ≤ sizeLine; decide, fun a1 ha1 => ?_⟩
      have e1 : Ex H' (upd H' a1 (.tup [.int 0, .int 1])) := Ex.new ha1
      refine ⟨by show 1 ≤ sizeLine; decide, fun a2 ha2 => ?_⟩
      have e2 := e1.trans (Ex.new ha2 (o := .tup [.ref a1]))
      have ha22 : upd (upd H' a1 (.tup [.int 0, .int 1])) a2 (.tup [.ref a1]) a2 = some (.tup [.ref a1]) := upd_same
      generalize upd (upd H' a1 (.tup [.int 0, .int 1])) a2 (.tup [.ref a1]) = H2 at e2 ha22 ⊢
      refine ⟨by show 4 ≤ sizeLine; decide, fun lx hlx => ?_⟩
      have e3 : Ex H2 (upd H2 lx (.lst [.non, .ref a2, .int 5, .bl true])) := Ex.new hlx
      refine ⟨⟨a, ns⟩, r, lx, [.non, .ref a2, .int 5, .bl true], rfl, hR.ex (e2.trans e3), upd_same, (hR.ex e2).ne hlx, by simp, by show 4 ≤ 1000000; decide, fun n v H4 hv R4 => ?_⟩
      have hm : v = .non ∨ v = .ref a2 ∨ v = .int 5 ∨ v = .bl true := by simpa using List.mem_of_getElem? hv
      have hno : NoCx H4 v := by
        rcases hm with rfl | rfl | rfl | rfl
        · exact .inl rfl
        · exact .inr (.inr (.inr ⟨_, a2, rfl, .inl (R4.n.t.d _ _ (e3 _ _ ha22))⟩))
        · exact .inr (.inl ⟨5, rfl⟩)
        · exact .inr (.inr (.inl ⟨true, rfl⟩))
      refine ⟨v, .non, rfl, .inl ⟨hno, fun H5 e5 => ⟨rfl, ?_⟩⟩⟩
      show Q (.bl (decide (V.str "complex" = V.str "complex"))) H5
      rw [decide_eq_true rfl]
      exact k H5
end
end Sh
set_option Elab.async false
set_option linter.all false
set_option maxRecDepth 100000
set_option maxHeartbeats 4000000
namespace Sh
open PySem PySem.Spec PyProof.Rows L2
theorem cl_some {K : PySem.W.Frag} {C : Addr} {x : Str} {r : Option Value} (hs : PySem.W.findIn K (.ref C) x = some r) : (PySem.W.clsIn K C).isSome = true := by
  obtain ⟨cd, e, _⟩ := PySem.W.kw_along hs
  rw [e]; rfl
/-- a def's facts, bound by its text -/
theorem df_mk {K : PySem.W.Frag} {h : Heap} {mg : Str → Option Value} {x : Str} {st : Stmt} {ps : List Str} {f : Addr} {oc : Value} {od an : Option Addr} {osl : Array (Option Value)} {kV doc pm cdv ct : Value} (X : K.In h) (G : h.Ns mainGlobals mg) (a : PySem.W.nsIn K mainGlobals x = some (some (.ref f)))
    (l : K.lookup f = some ⟨oc, od, .func (PySem.W.fnOf x x (defArgs st) (defBody st) (defScope st) .none kV doc pm an cdv ct), osl⟩) (c : PySem.W.codeIn K cdv x = true) (k : PySem.W.keepIn K (.ref f) = true)
    (hb : ∀ (kV doc pm : Value) (an : Option Addr) (cdv ct : Value) (us : List Value), us.length = ps.length → bindArgs (PySem.W.fnOf x x (defArgs st) (defBody st) (defScope st) .none kV doc pm an cdv ct) ⟨us, []⟩ = pure (ps.zip us)) : Df K mg x st ps :=
  ⟨f, _, fun_mk l c k, PySem.W.mg_of X G a, (fun_mk (st := st) l c k).binds hb⟩
theorem all_mk {l : PySem.W.OpenLaw} {w : World} {K : PySem.W.Frag} {h : Heap} {mg : Str → Option Value} {fa C CS CN CB : Addr} (X : K.In h) (G : h.Ns mainGlobals mg) (hfa : mg "law" = some (.ref fa))
    {f1 : Addr} {od1 an1 : Option Addr} {sl1 : Array (Option Value)} {oc1 kV1 dc1 pm1 cd1 ct1 : Value}
    {f2 : Addr} {od2 an2 : Option Addr} {sl2 : Array (Option Value)} {oc2 kV2 dc2 pm2 cd2 ct2 : Value}
    {f3 : Addr} {od3 an3 : Option Addr} {sl3 : Array (Option Value)} {oc3 kV3 dc3 pm3 cd3 ct3 : Value}
    {f15 : Addr} {od15 an15 : Option Addr} {sl15 : Array (Option Value)} {oc15 kV15 dc15 pm15 cd15 ct15 : Value}
    {f16 : Addr} {od16 an16 : Option Addr} {sl16 : Array (Option Value)} {oc16 kV16 dc16 pm16 cd16 ct16 : Value}
    {f17 : Addr} {od17 an17 : Option Addr} {sl17 : Array (Option Value)} {oc17 kV17 dc17 pm17 cd17 ct17 : Value}
    {f18 : Addr} {od18 an18 : Option Addr} {sl18 : Array (Option Value)} {oc18 kV18 dc18 pm18 cd18 ct18 : Value}
    {f19 : Addr} {od19 an19 : Option Addr} {sl19 : Array (Option Value)} {oc19 kV19 dc19 pm19 cd19 ct19 : Value}
    {f21 : Addr} {od21 an21 : Option Addr} {sl21 : Array (Option Value)} {oc21 kV21 dc21 pm21 cd21 ct21 : Value}
    {f22 : Addr} {od22 an22 : Option Addr} {sl22 : Array (Option Value)} {oc22 kV22 dc22 pm22 cd22 ct22 : Value}
    {f23 : Addr} {od23 an23 : Option Addr} {sl23 : Array (Option Value)} {oc23 kV23 dc23 pm23 cd23 ct23 : Value}
    {f24 : Addr} {od24 an24 : Option Addr} {sl24 : Array (Option Value)} {oc24 kV24 dc24 pm24 cd24 ct24 : Value}
    {f26 : Addr} {od26 an26 : Option Addr} {sl26 : Array (Option Value)} {oc26 kV26 dc26 pm26 cd26 ct26 : Value}
    {f27 : Addr} {od27 an27 : Option Addr} {sl27 : Array (Option Value)} {oc27 kV27 dc27 pm27 cd27 ct27 : Value}
    {f28 : Addr} {od28 an28 : Option Addr} {sl28 : Array (Option Value)} {oc28 kV28 dc28 pm28 cd28 ct28 : Value}
    {f29 : Addr} {od29 an29 : Option Addr} {sl29 : Array (Option Value)} {oc29 kV29 dc29 pm29 cd29 ct29 : Value}
    {f31 : Addr} {od31 an31 : Option Addr} {sl31 : Array (Option Value)} {oc31 kV31 dc31 pm31 cd31 ct31 : Value}
    {f32 : Addr} {od32 an32 : Option Addr} {sl32 : Array (Option Value)} {oc32 kV32 dc32 pm32 cd32 ct32 : Value}
    {f33 : Addr} {od33 an33 : Option Addr} {sl33 : Array (Option Value)} {oc33 kV33 dc33 pm33 cd33 ct33 : Value}
    {f34 : Addr} {od34 an34 : Option Addr} {sl34 : Array (Option Value)} {oc34 kV34 dc34 pm34 cd34 ct34 : Value}
    {f35 : Addr} {od35 an35 : Option Addr} {sl35 : Array (Option Value)} {oc35 kV35 dc35 pm35 cd35 ct35 : Value}
    {f36 : Addr} {od36 an36 : Option Addr} {sl36 : Array (Option Value)} {oc36 kV36 dc36 pm36 cd36 ct36 : Value}
    {f37 : Addr} {od37 an37 : Option Addr} {sl37 : Array (Option Value)} {oc37 kV37 dc37 pm37 cd37 ct37 : Value}
    {f39 : Addr} {od39 an39 : Option Addr} {sl39 : Array (Option Value)} {oc39 kV39 dc39 pm39 cd39 ct39 : Value}
    {f40 : Addr} {od40 an40 : Option Addr} {sl40 : Array (Option Value)} {oc40 kV40 dc40 pm40 cd40 ct40 : Value}
    {f41 : Addr} {od41 an41 : Option Addr} {sl41 : Array (Option Value)} {oc41 kV41 dc41 pm41 cd41 ct41 : Value}
    {f42 : Addr} {od42 an42 : Option Addr} {sl42 : Array (Option Value)} {oc42 kV42 dc42 pm42 cd42 ct42 : Value}
    {f43 : Addr} {od43 an43 : Option Addr} {sl43 : Array (Option Value)} {oc43 kV43 dc43 pm43 cd43 ct43 : Value}
    {f44 : Addr} {od44 an44 : Option Addr} {sl44 : Array (Option Value)} {oc44 kV44 dc44 pm44 cd44 ct44 : Value}
    {f45 : Addr} {od45 an45 : Option Addr} {sl45 : Array (Option Value)} {oc45 kV45 dc45 pm45 cd45 ct45 : Value}
    {f46 : Addr} {od46 an46 : Option Addr} {sl46 : Array (Option Value)} {oc46 kV46 dc46 pm46 cd46 ct46 : Value}
    {f47 : Addr} {od47 an47 : Option Addr} {sl47 : Array (Option Value)} {oc47 kV47 dc47 pm47 cd47 ct47 : Value}
    {f48 : Addr} {od48 an48 : Option Addr} {sl48 : Array (Option Value)} {oc48 kV48 dc48 pm48 cd48 ct48 : Value}
    {f49 : Addr} {od49 an49 : Option Addr} {sl49 : Array (Option Value)} {oc49 kV49 dc49 pm49 cd49 ct49 : Value}
    {f50 : Addr} {od50 an50 : Option Addr} {sl50 : Array (Option Value)} {oc50 kV50 dc50 pm50 cd50 ct50 : Value}
    {f60 : Addr} {od60 an60 : Option Addr} {sl60 : Array (Option Value)} {oc60 kV60 dc60 pm60 cd60 ct60 : Value}
    {tv : Tok}
    {tl : Tok}
    {tf : Tok}
    (a1 : PySem.W.nsIn K mainGlobals "is_integer" = some (some (.ref f1)))
    (l1 : K.lookup f1 = some ⟨oc1, od1, .func (PySem.W.fnOf "is_integer" "is_integer" (defArgs (top 1)) (defBody (top 1)) (defScope (top 1)) .none kV1 dc1 pm1 an1 cd1 ct1), sl1⟩)
    (c1 : PySem.W.codeIn K cd1 "is_integer" = true)
    (k1 : PySem.W.keepIn K (.ref f1) = true)
    (a2 : PySem.W.nsIn K mainGlobals "is_in" = some (some (.ref f2)))
    (l2 : K.lookup f2 = some ⟨oc2, od2, .func (PySem.W.fnOf "is_in" "is_in" (defArgs (top 2)) (defBody (top 2)) (defScope (top 2)) .none kV2 dc2 pm2 an2 cd2 ct2), sl2⟩)
    (c2 : PySem.W.codeIn K cd2 "is_in" = true)
    (k2 : PySem.W.keepIn K (.ref f2) = true)
    (a3 : PySem.W.nsIn K mainGlobals "is_list" = some (some (.ref f3)))
    (l3 : K.lookup f3 = some ⟨oc3, od3, .func (PySem.W.fnOf "is_list" "is_list" (defArgs (top 3)) (defBody (top 3)) (defScope (top 3)) .none kV3 dc3 pm3 an3 cd3 ct3), sl3⟩)
    (c3 : PySem.W.codeIn K cd3 "is_list" = true)
    (k3 : PySem.W.keepIn K (.ref f3) = true)
    (a15 : PySem.W.nsIn K mainGlobals "is_ascending" = some (some (.ref f15)))
    (l15 : K.lookup f15 = some ⟨oc15, od15, .func (PySem.W.fnOf "is_ascending" "is_ascending" (defArgs (top 15)) (defBody (top 15)) (defScope (top 15)) .none kV15 dc15 pm15 an15 cd15 ct15), sl15⟩)
    (c15 : PySem.W.codeIn K cd15 "is_ascending" = true)
    (k15 : PySem.W.keepIn K (.ref f15) = true)
    (a16 : PySem.W.nsIn K mainGlobals "is_simplex" = some (some (.ref f16)))
    (l16 : K.lookup f16 = some ⟨oc16, od16, .func (PySem.W.fnOf "is_simplex" "is_simplex" (defArgs (top 16)) (defBody (top 16)) (defScope (top 16)) .none kV16 dc16 pm16 an16 cd16 ct16), sl16⟩)
    (c16 : PySem.W.codeIn K cd16 "is_simplex" = true)
    (k16 : PySem.W.keepIn K (.ref f16) = true)
    (a17 : PySem.W.nsIn K mainGlobals "parts_of" = some (some (.ref f17)))
    (l17 : K.lookup f17 = some ⟨oc17, od17, .func (PySem.W.fnOf "parts_of" "parts_of" (defArgs (top 17)) (defBody (top 17)) (defScope (top 17)) .none kV17 dc17 pm17 an17 cd17 ct17), sl17⟩)
    (c17 : PySem.W.codeIn K cd17 "parts_of" = true)
    (k17 : PySem.W.keepIn K (.ref f17) = true)
    (a18 : PySem.W.nsIn K mainGlobals "generated" = some (some (.ref f18)))
    (l18 : K.lookup f18 = some ⟨oc18, od18, .func (PySem.W.fnOf "generated" "generated" (defArgs (top 18)) (defBody (top 18)) (defScope (top 18)) .none kV18 dc18 pm18 an18 cd18 ct18), sl18⟩)
    (c18 : PySem.W.codeIn K cd18 "generated" = true)
    (k18 : PySem.W.keepIn K (.ref f18) = true)
    (a19 : PySem.W.nsIn K mainGlobals "maximal" = some (some (.ref f19)))
    (l19 : K.lookup f19 = some ⟨oc19, od19, .func (PySem.W.fnOf "maximal" "maximal" (defArgs (top 19)) (defBody (top 19)) (defScope (top 19)) .none kV19 dc19 pm19 an19 cd19 ct19), sl19⟩)
    (c19 : PySem.W.codeIn K cd19 "maximal" = true)
    (k19 : PySem.W.keepIn K (.ref f19) = true)
    (a21 : PySem.W.nsIn K mainGlobals "need_complex" = some (some (.ref f21)))
    (l21 : K.lookup f21 = some ⟨oc21, od21, .func (PySem.W.fnOf "need_complex" "need_complex" (defArgs (top 21)) (defBody (top 21)) (defScope (top 21)) .none kV21 dc21 pm21 an21 cd21 ct21), sl21⟩)
    (c21 : PySem.W.codeIn K cd21 "need_complex" = true)
    (k21 : PySem.W.keepIn K (.ref f21) = true)
    (a22 : PySem.W.nsIn K mainGlobals "made" = some (some (.ref f22)))
    (l22 : K.lookup f22 = some ⟨oc22, od22, .func (PySem.W.fnOf "made" "made" (defArgs (top 22)) (defBody (top 22)) (defScope (top 22)) .none kV22 dc22 pm22 an22 cd22 ct22), sl22⟩)
    (c22 : PySem.W.codeIn K cd22 "made" = true)
    (k22 : PySem.W.keepIn K (.ref f22) = true)
    (a23 : PySem.W.nsIn K mainGlobals "counts_in" = some (some (.ref f23)))
    (l23 : K.lookup f23 = some ⟨oc23, od23, .func (PySem.W.fnOf "counts_in" "counts_in" (defArgs (top 23)) (defBody (top 23)) (defScope (top 23)) .none kV23 dc23 pm23 an23 cd23 ct23), sl23⟩)
    (c23 : PySem.W.codeIn K cd23 "counts_in" = true)
    (k23 : PySem.W.keepIn K (.ref f23) = true)
    (a24 : PySem.W.nsIn K mainGlobals "counts_of" = some (some (.ref f24)))
    (l24 : K.lookup f24 = some ⟨oc24, od24, .func (PySem.W.fnOf "counts_of" "counts_of" (defArgs (top 24)) (defBody (top 24)) (defScope (top 24)) .none kV24 dc24 pm24 an24 cd24 ct24), sl24⟩)
    (c24 : PySem.W.codeIn K cd24 "counts_of" = true)
    (k24 : PySem.W.keepIn K (.ref f24) = true)
    (a26 : PySem.W.nsIn K mainGlobals "is_pairing" = some (some (.ref f26)))
    (l26 : K.lookup f26 = some ⟨oc26, od26, .func (PySem.W.fnOf "is_pairing" "is_pairing" (defArgs (top 26)) (defBody (top 26)) (defScope (top 26)) .none kV26 dc26 pm26 an26 cd26 ct26), sl26⟩)
    (c26 : PySem.W.codeIn K cd26 "is_pairing" = true)
    (k26 : PySem.W.keepIn K (.ref f26) = true)
    (a27 : PySem.W.nsIn K mainGlobals "has_ring" = some (some (.ref f27)))
    (l27 : K.lookup f27 = some ⟨oc27, od27, .func (PySem.W.fnOf "has_ring" "has_ring" (defArgs (top 27)) (defBody (top 27)) (defScope (top 27)) .none kV27 dc27 pm27 an27 cd27 ct27), sl27⟩)
    (c27 : PySem.W.codeIn K cd27 "has_ring" = true)
    (k27 : PySem.W.keepIn K (.ref f27) = true)
    (a28 : PySem.W.nsIn K mainGlobals "is_loopless" = some (some (.ref f28)))
    (l28 : K.lookup f28 = some ⟨oc28, od28, .func (PySem.W.fnOf "is_loopless" "is_loopless" (defArgs (top 28)) (defBody (top 28)) (defScope (top 28)) .none kV28 dc28 pm28 an28 cd28 ct28), sl28⟩)
    (c28 : PySem.W.codeIn K cd28 "is_loopless" = true)
    (k28 : PySem.W.keepIn K (.ref f28) = true)
    (a29 : PySem.W.nsIn K mainGlobals "critical_counts" = some (some (.ref f29)))
    (l29 : K.lookup f29 = some ⟨oc29, od29, .func (PySem.W.fnOf "critical_counts" "critical_counts" (defArgs (top 29)) (defBody (top 29)) (defScope (top 29)) .none kV29 dc29 pm29 an29 cd29 ct29), sl29⟩)
    (c29 : PySem.W.codeIn K cd29 "critical_counts" = true)
    (k29 : PySem.W.keepIn K (.ref f29) = true)
    (a31 : PySem.W.nsIn K mainGlobals "holders_of" = some (some (.ref f31)))
    (l31 : K.lookup f31 = some ⟨oc31, od31, .func (PySem.W.fnOf "holders_of" "holders_of" (defArgs (top 31)) (defBody (top 31)) (defScope (top 31)) .none kV31 dc31 pm31 an31 cd31 ct31), sl31⟩)
    (c31 : PySem.W.codeIn K cd31 "holders_of" = true)
    (k31 : PySem.W.keepIn K (.ref f31) = true)
    (a32 : PySem.W.nsIn K mainGlobals "free_in" = some (some (.ref f32)))
    (l32 : K.lookup f32 = some ⟨oc32, od32, .func (PySem.W.fnOf "free_in" "free_in" (defArgs (top 32)) (defBody (top 32)) (defScope (top 32)) .none kV32 dc32 pm32 an32 cd32 ct32), sl32⟩)
    (c32 : PySem.W.codeIn K cd32 "free_in" = true)
    (k32 : PySem.W.keepIn K (.ref f32) = true)
    (a33 : PySem.W.nsIn K mainGlobals "without" = some (some (.ref f33)))
    (l33 : K.lookup f33 = some ⟨oc33, od33, .func (PySem.W.fnOf "without" "without" (defArgs (top 33)) (defBody (top 33)) (defScope (top 33)) .none kV33 dc33 pm33 an33 cd33 ct33), sl33⟩)
    (c33 : PySem.W.codeIn K cd33 "without" = true)
    (k33 : PySem.W.keepIn K (.ref f33) = true)
    (a34 : PySem.W.nsIn K mainGlobals "is_pair" = some (some (.ref f34)))
    (l34 : K.lookup f34 = some ⟨oc34, od34, .func (PySem.W.fnOf "is_pair" "is_pair" (defArgs (top 34)) (defBody (top 34)) (defScope (top 34)) .none kV34 dc34 pm34 an34 cd34 ct34), sl34⟩)
    (c34 : PySem.W.codeIn K cd34 "is_pair" = true)
    (k34 : PySem.W.keepIn K (.ref f34) = true)
    (a35 : PySem.W.nsIn K mainGlobals "collapsed" = some (some (.ref f35)))
    (l35 : K.lookup f35 = some ⟨oc35, od35, .func (PySem.W.fnOf "collapsed" "collapsed" (defArgs (top 35)) (defBody (top 35)) (defScope (top 35)) .none kV35 dc35 pm35 an35 cd35 ct35), sl35⟩)
    (c35 : PySem.W.codeIn K cd35 "collapsed" = true)
    (k35 : PySem.W.keepIn K (.ref f35) = true)
    (a36 : PySem.W.nsIn K mainGlobals "collapse_fully" = some (some (.ref f36)))
    (l36 : K.lookup f36 = some ⟨oc36, od36, .func (PySem.W.fnOf "collapse_fully" "collapse_fully" (defArgs (top 36)) (defBody (top 36)) (defScope (top 36)) .none kV36 dc36 pm36 an36 cd36 ct36), sl36⟩)
    (c36 : PySem.W.codeIn K cd36 "collapse_fully" = true)
    (k36 : PySem.W.keepIn K (.ref f36) = true)
    (a37 : PySem.W.nsIn K mainGlobals "left_by" = some (some (.ref f37)))
    (l37 : K.lookup f37 = some ⟨oc37, od37, .func (PySem.W.fnOf "left_by" "left_by" (defArgs (top 37)) (defBody (top 37)) (defScope (top 37)) .none kV37 dc37 pm37 an37 cd37 ct37), sl37⟩)
    (c37 : PySem.W.codeIn K cd37 "left_by" = true)
    (k37 : PySem.W.keepIn K (.ref f37) = true)
    (a39 : PySem.W.nsIn K mainGlobals "_law_taken" = some (some (.ref f39)))
    (l39 : K.lookup f39 = some ⟨oc39, od39, .func (PySem.W.fnOf "_law_taken" "_law_taken" (defArgs (top 39)) (defBody (top 39)) (defScope (top 39)) .none kV39 dc39 pm39 an39 cd39 ct39), sl39⟩)
    (c39 : PySem.W.codeIn K cd39 "_law_taken" = true)
    (k39 : PySem.W.keepIn K (.ref f39) = true)
    (a40 : PySem.W.nsIn K mainGlobals "_law_pick" = some (some (.ref f40)))
    (l40 : K.lookup f40 = some ⟨oc40, od40, .func (PySem.W.fnOf "_law_pick" "_law_pick" (defArgs (top 40)) (defBody (top 40)) (defScope (top 40)) .none kV40 dc40 pm40 an40 cd40 ct40), sl40⟩)
    (c40 : PySem.W.codeIn K cd40 "_law_pick" = true)
    (k40 : PySem.W.keepIn K (.ref f40) = true)
    (a41 : PySem.W.nsIn K mainGlobals "_law_alike" = some (some (.ref f41)))
    (l41 : K.lookup f41 = some ⟨oc41, od41, .func (PySem.W.fnOf "_law_alike" "_law_alike" (defArgs (top 41)) (defBody (top 41)) (defScope (top 41)) .none kV41 dc41 pm41 an41 cd41 ct41), sl41⟩)
    (c41 : PySem.W.codeIn K cd41 "_law_alike" = true)
    (k41 : PySem.W.keepIn K (.ref f41) = true)
    (a42 : PySem.W.nsIn K mainGlobals "_law_simplex" = some (some (.ref f42)))
    (l42 : K.lookup f42 = some ⟨oc42, od42, .func (PySem.W.fnOf "_law_simplex" "_law_simplex" (defArgs (top 42)) (defBody (top 42)) (defScope (top 42)) .none kV42 dc42 pm42 an42 cd42 ct42), sl42⟩)
    (c42 : PySem.W.codeIn K cd42 "_law_simplex" = true)
    (k42 : PySem.W.keepIn K (.ref f42) = true)
    (a43 : PySem.W.nsIn K mainGlobals "_law_simplices" = some (some (.ref f43)))
    (l43 : K.lookup f43 = some ⟨oc43, od43, .func (PySem.W.fnOf "_law_simplices" "_law_simplices" (defArgs (top 43)) (defBody (top 43)) (defScope (top 43)) .none kV43 dc43 pm43 an43 cd43 ct43), sl43⟩)
    (c43 : PySem.W.codeIn K cd43 "_law_simplices" = true)
    (k43 : PySem.W.keepIn K (.ref f43) = true)
    (a44 : PySem.W.nsIn K mainGlobals "_law_faces" = some (some (.ref f44)))
    (l44 : K.lookup f44 = some ⟨oc44, od44, .func (PySem.W.fnOf "_law_faces" "_law_faces" (defArgs (top 44)) (defBody (top 44)) (defScope (top 44)) .none kV44 dc44 pm44 an44 cd44 ct44), sl44⟩)
    (c44 : PySem.W.codeIn K cd44 "_law_faces" = true)
    (k44 : PySem.W.keepIn K (.ref f44) = true)
    (a45 : PySem.W.nsIn K mainGlobals "_law_at" = some (some (.ref f45)))
    (l45 : K.lookup f45 = some ⟨oc45, od45, .func (PySem.W.fnOf "_law_at" "_law_at" (defArgs (top 45)) (defBody (top 45)) (defScope (top 45)) .none kV45 dc45 pm45 an45 cd45 ct45), sl45⟩)
    (c45 : PySem.W.codeIn K cd45 "_law_at" = true)
    (k45 : PySem.W.keepIn K (.ref f45) = true)
    (a46 : PySem.W.nsIn K mainGlobals "_law_wide" = some (some (.ref f46)))
    (l46 : K.lookup f46 = some ⟨oc46, od46, .func (PySem.W.fnOf "_law_wide" "_law_wide" (defArgs (top 46)) (defBody (top 46)) (defScope (top 46)) .none kV46 dc46 pm46 an46 cd46 ct46), sl46⟩)
    (c46 : PySem.W.codeIn K cd46 "_law_wide" = true)
    (k46 : PySem.W.keepIn K (.ref f46) = true)
    (a47 : PySem.W.nsIn K mainGlobals "_law_matching" = some (some (.ref f47)))
    (l47 : K.lookup f47 = some ⟨oc47, od47, .func (PySem.W.fnOf "_law_matching" "_law_matching" (defArgs (top 47)) (defBody (top 47)) (defScope (top 47)) .none kV47 dc47 pm47 an47 cd47 ct47), sl47⟩)
    (c47 : PySem.W.codeIn K cd47 "_law_matching" = true)
    (k47 : PySem.W.keepIn K (.ref f47) = true)
    (a48 : PySem.W.nsIn K mainGlobals "_law_rings" = some (some (.ref f48)))
    (l48 : K.lookup f48 = some ⟨oc48, od48, .func (PySem.W.fnOf "_law_rings" "_law_rings" (defArgs (top 48)) (defBody (top 48)) (defScope (top 48)) .none kV48 dc48 pm48 an48 cd48 ct48), sl48⟩)
    (c48 : PySem.W.codeIn K cd48 "_law_rings" = true)
    (k48 : PySem.W.keepIn K (.ref f48) = true)
    (a49 : PySem.W.nsIn K mainGlobals "_law_told" = some (some (.ref f49)))
    (l49 : K.lookup f49 = some ⟨oc49, od49, .func (PySem.W.fnOf "_law_told" "_law_told" (defArgs (top 49)) (defBody (top 49)) (defScope (top 49)) .none kV49 dc49 pm49 an49 cd49 ct49), sl49⟩)
    (c49 : PySem.W.codeIn K cd49 "_law_told" = true)
    (k49 : PySem.W.keepIn K (.ref f49) = true)
    (a50 : PySem.W.nsIn K mainGlobals "law" = some (some (.ref f50)))
    (l50 : K.lookup f50 = some ⟨oc50, od50, .func (PySem.W.fnOf "law" "law" (defArgs (top 50)) (defBody (top 50)) (defScope (top 50)) .none kV50 dc50 pm50 an50 cd50 ct50), sl50⟩)
    (c50 : PySem.W.codeIn K cd50 "law" = true)
    (k50 : PySem.W.keepIn K (.ref f50) = true)
    (aC : PySem.W.nsIn K mainGlobals "Complex" = some (some (.ref C)))
    (a60 : PySem.W.findIn K (.ref C) "__init__" = some (some (.ref f60)))
    (l60 : K.lookup f60 = some ⟨oc60, od60, .func (PySem.W.fnOf "__init__" "Complex.__init__" (defArgs (sInit)) (defBody (sInit)) (defScope (sInit)) .none kV60 dc60 pm60 an60 cd60 ct60), sl60⟩)
    (c60 : PySem.W.codeIn K cd60 "Complex.__init__" = true)
    (k60 : PySem.W.keepIn K (.ref f60) = true)
    (i60 : PySem.W.isFn K (.ref f60) = true)
    (pg : PySem.W.plainGet K C Str.empty = true)
    (hd : PySem.W.hasDictIn K C = true)
    (po : PySem.W.plainOver K C = true)
    (sa : PySem.W.findIn K (.ref C) "__setattr__" = some (some (.builtin "object.__setattr__")))
    (mk : PySem.W.makesIn K C = true)
    (kc : PySem.W.keepIn K (.ref C) = true)
    (nF : PySem.W.findIn K (.ref C) "faces" = some none)
    (nT : PySem.W.findIn K (.ref C) "tops" = some none)
    (iha : PySem.W.findIn K (.ref C) "__class__" = some (some (.builtin "object.__class__")))
    (ihn : PySem.W.specialIn K (.builtin "object.__class__") "__get__" = some (some (.builtin "getset_descriptor.__get__")))
    (iht : PySem.W.takesIn K (.builtin "object.__class__") = some true)
    (ihm : PySem.W.mroIn K C (.type "object") = some true)
    (ktb : PySem.W.typeIn K (.ref C) = some (.type "type"))
    (kNone : PySem.W.subIn K (.type "NoneType") (.ref C) = some false)
    (kInt : PySem.W.subIn K (.type "int") (.ref C) = some false)
    (kBool : PySem.W.subIn K (.type "bool") (.ref C) = some false)
    (kTup : PySem.W.subIn K (.type "tuple") (.ref C) = some false)
    (n_isinstance : PySem.W.nsIn K mainGlobals "isinstance" = some none)
    (n_int : PySem.W.nsIn K mainGlobals "int" = some none)
    (n_bool : PySem.W.nsIn K mainGlobals "bool" = some none)
    (n_str : PySem.W.nsIn K mainGlobals "str" = some none)
    (n_tuple : PySem.W.nsIn K mainGlobals "tuple" = some none)
    (n_len : PySem.W.nsIn K mainGlobals "len" = some none)
    (n_all : PySem.W.nsIn K mainGlobals "all" = some none)
    (n_any : PySem.W.nsIn K mainGlobals "any" = some none)
    (n_zip : PySem.W.nsIn K mainGlobals "zip" = some none)
    (n_range : PySem.W.nsIn K mainGlobals "range" = some none)
    (n_enumerate : PySem.W.nsIn K mainGlobals "enumerate" = some none)
    (n_sorted : PySem.W.nsIn K mainGlobals "sorted" = some none)
    (n_max : PySem.W.nsIn K mainGlobals "max" = some none)
    (n_min : PySem.W.nsIn K mainGlobals "min" = some none)
    (n_dict : PySem.W.nsIn K mainGlobals "dict" = some none)
    (n_list : PySem.W.nsIn K mainGlobals "list" = some none)
    (n_set : PySem.W.nsIn K mainGlobals "set" = some none)
    (c_tv : PySem.W.nsIn K mainGlobals "MOST_VERTEX" = some (some (.int 30 tv)))
    (c_tl : PySem.W.nsIn K mainGlobals "MOST_LENGTH" = some (some (.int 8 tl)))
    (c_tf : PySem.W.nsIn K mainGlobals "MOST_FACES" = some (some (.int 400 tf)))
    (eNm : PySem.W.nsIn K mainGlobals "NotComplex" = some (some (.ref CN)))
    (eNx : PySem.W.excIn K CN [.type "ValueError", .type "Exception", .type "BaseException", .type "object"] "ValueError.__new__" = true)
    (eNk : PySem.W.keepIn K (.ref CN) = true)
    (eNs : PySem.W.subIn K (.ref CN) (.type "BaseException") = some true)
    (eNt : PySem.W.typeIn K (.ref CN) = some (.type "type"))
    (eNg : PySem.W.findIn K (.ref CN) "__getattribute__" = some (some (.builtin "BaseException.__getattribute__")))
    (eNh : PySem.W.findIn K (.ref CN) "__getattr__" = some none)
    (eNd : PySem.W.hasDictIn K CN = true)
    (eNa : PySem.W.findIn K (.ref CN) "__class__" = some (some (.builtin "object.__class__")))
    (eNo : PySem.W.mroIn K CN (.type "object") = some true)
    (eBm : PySem.W.nsIn K mainGlobals "BadMatching" = some (some (.ref CB)))
    (eBx : PySem.W.excIn K CB [.type "ValueError", .type "Exception", .type "BaseException", .type "object"] "ValueError.__new__" = true)
    (eBk : PySem.W.keepIn K (.ref CB) = true)
    (eBs : PySem.W.subIn K (.ref CB) (.type "BaseException") = some true)
    (eBt : PySem.W.typeIn K (.ref CB) = some (.type "type"))
    (eBg : PySem.W.findIn K (.ref CB) "__getattribute__" = some (some (.builtin "BaseException.__getattribute__")))
    (eBh : PySem.W.findIn K (.ref CB) "__getattr__" = some none)
    (eBd : PySem.W.hasDictIn K CB = true)
    (eBa : PySem.W.findIn K (.ref CB) "__class__" = some (some (.builtin "object.__class__")))
    (eBo : PySem.W.mroIn K CB (.type "object") = some true)
    (mgS : PySem.W.nsIn K mainGlobals "ShapeError" = some (some (.ref CS)))
    (sS : PySem.W.subIn K (.ref CS) (.type "BaseException") = some true)
    (tS : PySem.W.typeIn K (.ref CS) = some (.type "type"))
    (hS : PySem.W.hasDictIn K CS = true)
    (sNS : PySem.W.subIn K (.ref CN) (.ref CS) = some true)
    (sBS : PySem.W.subIn K (.ref CB) (.ref CS) = some true)
    (sNB : PySem.W.subIn K (.ref CN) (.ref CB) = some false)
    (ne : CN ≠ CB)
    : ∃ fd : FuncData, (∀ (s : Shared) (v : Value), BindsTo s fd ⟨[v], []⟩ [("_law_script", v)]) ∧ ∀ base : Heap, K.In base → base.Ns mainGlobals mg → FnOk l.prog w K mg base CX0 12 fa fd ["_law_script"] (spLaw K) := by
  have e := hfa.symm.trans (PySem.W.mg_of X G a50)
  cases e
  have T : Tx K mg C CS CN CB := {
    n_isinstance := PySem.W.mg_none_of X G n_isinstance
    n_int := PySem.W.mg_none_of X G n_int
    n_bool := PySem.W.mg_none_of X G n_bool
    n_str := PySem.W.mg_none_of X G n_str
    n_tuple := PySem.W.mg_none_of X G n_tuple
    n_len := PySem.W.mg_none_of X G n_len
    n_all := PySem.W.mg_none_of X G n_all
    n_any := PySem.W.mg_none_of X G n_any
    n_zip := PySem.W.mg_none_of X G n_zip
    n_range := PySem.W.mg_none_of X G n_range
    n_enumerate := PySem.W.mg_none_of X G n_enumerate
    n_sorted := PySem.W.mg_none_of X G n_sorted
    n_max := PySem.W.mg_none_of X G n_max
    n_min := PySem.W.mg_none_of X G n_min
    n_dict := PySem.W.mg_none_of X G n_dict
    n_list := PySem.W.mg_none_of X G n_list
    n_set := PySem.W.mg_none_of X G n_set
    c_vertex := ⟨tv, PySem.W.mg_of X G c_tv⟩
    c_length := ⟨tl, PySem.W.mg_of X G c_tl⟩
    c_faces := ⟨tf, PySem.W.mg_of X G c_tf⟩
    cl := ⟨pg, hd, po, sa⟩
    nF := nF
    nT := nT
    mgC := PySem.W.mg_of X G aC
    ini := ⟨f60, _, ⟨mk, a60, i60, kc⟩, fun_mk l60 c60 k60, (fun_mk (st := sInit) l60 c60 k60).binds (ps := ["self", "simplices"]) fun _ _ _ _ _ _ us hl => match us, hl with | [_, _], _ => rfl⟩
    iha := iha
    ihn := ihn
    iht := iht
    ihm := ihm
    kt := ⟨cl_some sa, ktb⟩
    kNone := kNone
    kInt := kInt
    kBool := kBool
    kTup := kTup
    eN := ⟨PySem.W.mg_of X G eNm, eNx, eNk, eNs, eNt, ⟨eNg, eNh, eNs, eNd, eNa, ihn, iht, eNo⟩⟩
    eB := ⟨PySem.W.mg_of X G eBm, eBx, eBk, eBs, eBt, ⟨eBg, eBh, eBs, eBd, eBa, ihn, iht, eBo⟩⟩
    mgS := PySem.W.mg_of X G mgS
    sS := sS
    tS := tS
    hS := hS
    sNS := sNS
    sBS := sBS
    sNB := sNB
    hCB := cl_some eBg
    ne := ne
    d_is_integer := df_mk X G a1 l1 c1 k1 fun _ _ _ _ _ _ us hl => match us, hl with | [_], _ => rfl
    d_is_in := df_mk X G a2 l2 c2 k2 fun _ _ _ _ _ _ us hl => match us, hl with | [_, _, _], _ => rfl
    d_is_list := df_mk X G a3 l3 c3 k3 fun _ _ _ _ _ _ us hl => match us, hl with | [_, _, _], _ => rfl
    d_is_ascending := df_mk X G a15 l15 c15 k15 fun _ _ _ _ _ _ us hl => match us, hl with | [_, _, _], _ => rfl
    d_is_simplex := df_mk X G a16 l16 c16 k16 fun _ _ _ _ _ _ us hl => match us, hl with | [_], _ => rfl
    d_parts_of := df_mk X G a17 l17 c17 k17 fun _ _ _ _ _ _ us hl => match us, hl with | [_], _ => rfl
    d_generated := df_mk X G a18 l18 c18 k18 fun _ _ _ _ _ _ us hl => match us, hl with | [_], _ => rfl
    d_maximal := df_mk X G a19 l19 c19 k19 fun _ _ _ _ _ _ us hl => match us, hl with | [_], _ => rfl
    d_need_complex := df_mk X G a21 l21 c21 k21 fun _ _ _ _ _ _ us hl => match us, hl with | [_], _ => rfl
    d_made := df_mk X G a22 l22 c22 k22 fun _ _ _ _ _ _ us hl => match us, hl with | [_], _ => rfl
    d_counts_in := df_mk X G a23 l23 c23 k23 fun _ _ _ _ _ _ us hl => match us, hl with | [_], _ => rfl
    d_counts_of := df_mk X G a24 l24 c24 k24 fun _ _ _ _ _ _ us hl => match us, hl with | [_], _ => rfl
    d_is_pairing := df_mk X G a26 l26 c26 k26 fun _ _ _ _ _ _ us hl => match us, hl with | [_, _], _ => rfl
    d_has_ring := df_mk X G a27 l27 c27 k27 fun _ _ _ _ _ _ us hl => match us, hl with | [_], _ => rfl
    d_is_loopless := df_mk X G a28 l28 c28 k28 fun _ _ _ _ _ _ us hl => match us, hl with | [_, _], _ => rfl
    d_critical_counts := df_mk X G a29 l29 c29 k29 fun _ _ _ _ _ _ us hl => match us, hl with | [_, _], _ => rfl
    d_holders_of := df_mk X G a31 l31 c31 k31 fun _ _ _ _ _ _ us hl => match us, hl with | [_], _ => rfl
    d_free_in := df_mk X G a32 l32 c32 k32 fun _ _ _ _ _ _ us hl => match us, hl with | [_], _ => rfl
    d_without := df_mk X G a33 l33 c33 k33 fun _ _ _ _ _ _ us hl => match us, hl with | [_, _], _ => rfl
    d_is_pair := df_mk X G a34 l34 c34 k34 fun _ _ _ _ _ _ us hl => match us, hl with | [_], _ => rfl
    d_collapsed := df_mk X G a35 l35 c35 k35 fun _ _ _ _ _ _ us hl => match us, hl with | [_, _], _ => rfl
    d_collapse_fully := df_mk X G a36 l36 c36 k36 fun _ _ _ _ _ _ us hl => match us, hl with | [_], _ => rfl
    d_left_by := df_mk X G a37 l37 c37 k37 fun _ _ _ _ _ _ us hl => match us, hl with | [_], _ => rfl
    d_taken := df_mk X G a39 l39 c39 k39 fun _ _ _ _ _ _ us hl => match us, hl with | [_, _], _ => rfl
    d_pick := df_mk X G a40 l40 c40 k40 fun _ _ _ _ _ _ us hl => match us, hl with | [_, _], _ => rfl
    d_alike := df_mk X G a41 l41 c41 k41 fun _ _ _ _ _ _ us hl => match us, hl with | [_, _], _ => rfl
    d_simplex := df_mk X G a42 l42 c42 k42 fun _ _ _ _ _ _ us hl => match us, hl with | [_, _, _], _ => rfl
    d_simplices := df_mk X G a43 l43 c43 k43 fun _ _ _ _ _ _ us hl => match us, hl with | [_, _, _], _ => rfl
    d_faces := df_mk X G a44 l44 c44 k44 fun _ _ _ _ _ _ us hl => match us, hl with | [_], _ => rfl
    d_at := df_mk X G a45 l45 c45 k45 fun _ _ _ _ _ _ us hl => match us, hl with | [_, _], _ => rfl
    d_wide := df_mk X G a46 l46 c46 k46 fun _ _ _ _ _ _ us hl => match us, hl with | [_, _, _], _ => rfl
    d_matching := df_mk X G a47 l47 c47 k47 fun _ _ _ _ _ _ us hl => match us, hl with | [_, _], _ => rfl
    d_rings := df_mk X G a48 l48 c48 k48 fun _ _ _ _ _ _ us hl => match us, hl with | [_], _ => rfl
    d_told := df_mk X G a49 l49 c49 k49 fun _ _ _ _ _ _ us hl => match us, hl with | [_, _], _ => rfl
  }
  exact ⟨PySem.W.fnOf "law" "law" (defArgs (top 50)) (defBody (top 50)) (defScope (top 50)) .none kV50 dc50 pm50 an50 cd50 ct50, fun s v => .of_eq rfl, fun base _ _ => ok_law T (fun_mk (st := top 50) l50 c50 k50)⟩
theorem walk {l : PySem.W.OpenLaw} {q : Program} {loose : List Str} {XP : (Str → Option Value) → Heap → Prop} {YP : World → Heap → Prop} {d : DefRec} {K : Params → PySem.W.Frag} (hn : l.most = some 63) (hdf : d.params.defaults = [])
    (hY : ∀ (w : World) (h : Heap), YP w h → (K w.params).In h)
    (F : ∀ (w : World) (mg : Str → Option Value) (fa : Addr) (h : Heap), (K w.params).In h → h.Ns mainGlobals mg → mg d.name = some (.ref fa) →
      ∃ fd : FuncData, (∀ (s : Shared) (u : Value), BindsTo s fd ⟨[u], []⟩ [("_law_script", u)]) ∧ ∀ base : Heap, (K w.params).In base → base.Ns mainGlobals mg → FnOk l.prog w (K w.params) mg base CX0 12 fa fd ["_law_script"] (spLaw (K w.params))) :
    PySem.W.WalkO q loose XP YP l.row.toRowW d [] (fun f vs => PySem.call f vs) :=
  L2.walk_of (n := 63) (k := 12) (x := "_law_script") (CX := fun _ => CX0) (sp := fun w => spLaw (K w.params)) hn (by decide) hdf ⟨rfl, by decide, by decide⟩ hY F (fun _ _ a ns hl _ hS => ⟨a, ns, rfl, hS, hl, fun _ => rfl⟩) fun _ _ _ _ _ z => z
end Sh

open PySem PySem.W PyProof.Rows in
set_option maxRecDepth 100000 in
set_option maxHeartbeats 0 in
theorem PySem.Challenge.cw_shapeholes_k95_whole_matchings_holds : PySem.Challenge.rw_shapeholes_k95_whole_matchings.Holds := by
  w_on; o_law; k_head; (case hw => w_witness2)
  k_fill
  refine Sh.walk (l := PySem.Challenge.rw_shapeholes_k95_whole_matchings) rfl rfl (fun w h Y => PySem.W.kIn_of Y) ?F
  case F =>
    intro w mg fa h KX G hmg
    refine' Sh.all_mk KX G hmg ?a1 ?l1 ?c1 ?k1 ?a2 ?l2 ?c2 ?k2 ?a3 ?l3 ?c3 ?k3 ?a15 ?l15 ?c15 ?k15 ?a16 ?l16 ?c16 ?k16 ?a17 ?l17 ?c17 ?k17 ?a18 ?l18 ?c18 ?k18 ?a19 ?l19 ?c19 ?k19 ?a21 ?l21 ?c21 ?k21 ?a22 ?l22 ?c22 ?k22 ?a23 ?l23 ?c23 ?k23 ?a24 ?l24 ?c24 ?k24 ?a26 ?l26 ?c26 ?k26 ?a27 ?l27 ?c27 ?k27 ?a28 ?l28 ?c28 ?k28 ?a29 ?l29 ?c29 ?k29 ?a31 ?l31 ?c31 ?k31 ?a32 ?l32 ?c32 ?k32 ?a33 ?l33 ?c33 ?k33 ?a34 ?l34 ?c34 ?k34 ?a35 ?l35 ?c35 ?k35 ?a36 ?l36 ?c36 ?k36 ?a37 ?l37 ?c37 ?k37 ?a39 ?l39 ?c39 ?k39 ?a40 ?l40 ?c40 ?k40 ?a41 ?l41 ?c41 ?k41 ?a42 ?l42 ?c42 ?k42 ?a43 ?l43 ?c43 ?k43 ?a44 ?l44 ?c44 ?k44 ?a45 ?l45 ?c45 ?k45 ?a46 ?l46 ?c46 ?k46 ?a47 ?l47 ?c47 ?k47 ?a48 ?l48 ?c48 ?k48 ?a49 ?l49 ?c49 ?k49 ?a50 ?l50 ?c50 ?k50 ?aC ?a60 ?l60 ?c60 ?k60 ?i60 ?pg ?hd ?po ?sa ?mk ?kc ?nF ?nT ?iha ?ihn ?iht ?ihm ?ktb ?kNone ?kInt ?kBool ?kTup ?n_isinstance ?n_int ?n_bool ?n_str ?n_tuple ?n_len ?n_all ?n_any ?n_zip ?n_range ?n_enumerate ?n_sorted ?n_max ?n_min ?n_dict ?n_list ?n_set ?c_tv ?c_tl ?c_tf ?eNm ?eNx ?eNk ?eNs ?eNt ?eNg ?eNh ?eNd ?eNa ?eNo ?eBm ?eBx ?eBk ?eBs ?eBt ?eBg ?eBh ?eBd ?eBa ?eBo ?mgS ?sS ?tS ?hS ?sNS ?sBS ?sNB ?ne
    (case a1 => k_is)
    (case l1 => k_is)
    (case c1 => k_is)
    (case k1 => k_is)
    (case a2 => k_is)
    (case l2 => k_is)
    (case c2 => k_is)
    (case k2 => k_is)
    (case a3 => k_is)
    (case l3 => k_is)
    (case c3 => k_is)
    (case k3 => k_is)
    (case a15 => k_is)
    (case l15 => k_is)
    (case c15 => k_is)
    (case k15 => k_is)
    (case a16 => k_is)
    (case l16 => k_is)
    (case c16 => k_is)
    (case k16 => k_is)
    (case a17 => k_is)
    (case l17 => k_is)
    (case c17 => k_is)
    (case k17 => k_is)
    (case a18 => k_is)
    (case l18 => k_is)
    (case c18 => k_is)
    (case k18 => k_is)
    (case a19 => k_is)
    (case l19 => k_is)
    (case c19 => k_is)
    (case k19 => k_is)
    (case a21 => k_is)
    (case l21 => k_is)
    (case c21 => k_is)
    (case k21 => k_is)
    (case a22 => k_is)
    (case l22 => k_is)
    (case c22 => k_is)
    (case k22 => k_is)
    (case a23 => k_is)
    (case l23 => k_is)
    (case c23 => k_is)
    (case k23 => k_is)
    (case a24 => k_is)
    (case l24 => k_is)
    (case c24 => k_is)
    (case k24 => k_is)
    (case a26 => k_is)
    (case l26 => k_is)
    (case c26 => k_is)
    (case k26 => k_is)
    (case a27 => k_is)
    (case l27 => k_is)
    (case c27 => k_is)
    (case k27 => k_is)
    (case a28 => k_is)
    (case l28 => k_is)
    (case c28 => k_is)
    (case k28 => k_is)
    (case a29 => k_is)
    (case l29 => k_is)
    (case c29 => k_is)
    (case k29 => k_is)
    (case a31 => k_is)
    (case l31 => k_is)
    (case c31 => k_is)
    (case k31 => k_is)
    (case a32 => k_is)
    (case l32 => k_is)
    (case c32 => k_is)
    (case k32 => k_is)
    (case a33 => k_is)
    (case l33 => k_is)
    (case c33 => k_is)
    (case k33 => k_is)
    (case a34 => k_is)
    (case l34 => k_is)
    (case c34 => k_is)
    (case k34 => k_is)
    (case a35 => k_is)
    (case l35 => k_is)
    (case c35 => k_is)
    (case k35 => k_is)
    (case a36 => k_is)
    (case l36 => k_is)
    (case c36 => k_is)
    (case k36 => k_is)
    (case a37 => k_is)
    (case l37 => k_is)
    (case c37 => k_is)
    (case k37 => k_is)
    (case a39 => k_is)
    (case l39 => k_is)
    (case c39 => k_is)
    (case k39 => k_is)
    (case a40 => k_is)
    (case l40 => k_is)
    (case c40 => k_is)
    (case k40 => k_is)
    (case a41 => k_is)
    (case l41 => k_is)
    (case c41 => k_is)
    (case k41 => k_is)
    (case a42 => k_is)
    (case l42 => k_is)
    (case c42 => k_is)
    (case k42 => k_is)
    (case a43 => k_is)
    (case l43 => k_is)
    (case c43 => k_is)
    (case k43 => k_is)
    (case a44 => k_is)
    (case l44 => k_is)
    (case c44 => k_is)
    (case k44 => k_is)
    (case a45 => k_is)
    (case l45 => k_is)
    (case c45 => k_is)
    (case k45 => k_is)
    (case a46 => k_is)
    (case l46 => k_is)
    (case c46 => k_is)
    (case k46 => k_is)
    (case a47 => k_is)
    (case l47 => k_is)
    (case c47 => k_is)
    (case k47 => k_is)
    (case a48 => k_is)
    (case l48 => k_is)
    (case c48 => k_is)
    (case k48 => k_is)
    (case a49 => k_is)
    (case l49 => k_is)
    (case c49 => k_is)
    (case k49 => k_is)
    (case a50 => k_is)
    (case l50 => k_is)
    (case c50 => k_is)
    (case k50 => k_is)
    (case aC => k_is)
    (case a60 => k_is)
    (case l60 => k_is)
    (case c60 => k_is)
    (case k60 => k_is)
    (case i60 => k_is)
    (case pg => k_is)
    (case hd => k_is)
    (case po => k_is)
    (case sa => k_is)
    (case mk => k_is)
    (case kc => k_is)
    (case nF => k_is)
    (case nT => k_is)
    (case iha => k_is)
    (case ihn => k_is)
    (case iht => k_is)
    (case ihm => k_is)
    (case ktb => k_is)
    (case kNone => k_is)
    (case kInt => k_is)
    (case kBool => k_is)
    (case kTup => k_is)
    (case n_isinstance => k_is)
    (case n_int => k_is)
    (case n_bool => k_is)
    (case n_str => k_is)
    (case n_tuple => k_is)
    (case n_len => k_is)
    (case n_all => k_is)
    (case n_any => k_is)
    (case n_zip => k_is)
    (case n_range => k_is)
    (case n_enumerate => k_is)
    (case n_sorted => k_is)
    (case n_max => k_is)
    (case n_min => k_is)
    (case n_dict => k_is)
    (case n_list => k_is)
    (case n_set => k_is)
    (case c_tv => k_is)
    (case c_tl => k_is)
    (case c_tf => k_is)
    (case eNm => k_is)
    (case eNx => k_exc)
    (case eNk => k_is)
    (case eNs => k_is)
    (case eNt => k_is)
    (case eNg => k_is)
    (case eNh => k_is)
    (case eNd => k_is)
    (case eNa => k_is)
    (case eNo => k_is)
    (case eBm => k_is)
    (case eBx => k_exc)
    (case eBk => k_is)
    (case eBs => k_is)
    (case eBt => k_is)
    (case eBg => k_is)
    (case eBh => k_is)
    (case eBd => k_is)
    (case eBa => k_is)
    (case eBo => k_is)
    (case mgS => k_is)
    (case sS => k_is)
    (case tS => k_is)
    (case hS => k_is)
    (case sNS => k_is)
    (case sBS => k_is)
    (case sNB => k_is)
    (case ne => decide)
