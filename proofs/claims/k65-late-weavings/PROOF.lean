import PyProof.Rows.All
import Wide.All
import OpenK.AllK
import Wide.FinOn
import HandS.ForMost
import HandS.Wide
import HandS.IsInst
import HandS.TupAny
import HandS.WordsExc
import HandS.SortInts
import HandS.Conv
import HandS.Sort
import HandS.Dict
import PySem.Challenge.RW_holesleft_k65_late_weavings
set_option Elab.async false
set_option linter.all false
set_option maxRecDepth 100000
set_option maxHeartbeats 4000000
set_option autoImplicit false

/-! DL: a program logic over data: values are trees, mutable lists are numbered cells. -/
namespace DL
open PySem L2

/-! ### data -/
inductive D where
  | non | bl (b : Bool) | int (i : Int) | str (x : Str) | ty (n : String) | adr (a : Addr)
  | lst (xs : List D) | tup (xs : List D) | rng (lo hi : Int)
  | obj (C : Addr) (fs : List (Str × D)) | dic (kvs : List (Key × D))

/-- all that H knows H' knows too -/
def Sub (H H' : Hp) : Prop := ∀ a o, H a = some o → H' a = some o
theorem Sub.refl (H : Hp) : Sub H H := fun _ _ h => h
theorem Sub.trans {H H1 H2 : Hp} (a : Sub H H1) (b : Sub H1 H2) : Sub H H2 := fun x o h => b x o (a x o h)
theorem Sub.new {H : Hp} {p : Addr} {o : HO} (h : H p = none) : Sub H (upd H p o) := fun a u e => by
  rw [upd_ne (ne_of_none e h)]
  exact e
theorem Sub.upd {H H' : Hp} {p : Addr} {o : HO} (e : Sub H H') : Sub (upd H p o) (upd H' p o) := fun a u h => by
  by_cases q : a = p
  · subst q
    rw [upd_same] at h ⊢
    exact h
  · rw [upd_ne q] at h ⊢
    exact e a u h
theorem Sub.mut {H H' : Hp} {p : Addr} {o : HO} (e : Sub H H') (h : H p = none) : Sub H (L2.upd H' p o) := fun a u ha => by
  rw [upd_ne (ne_of_none ha h)]
  exact e a u ha
theorem Sub.none {H H' : Hp} {p : Addr} (e : Sub H H') (h : H' p = none) : H p = none := by
  cases h1 : H p with
  | none => rfl
  | some o =>
    rw [e p o h1] at h
    cases h
theorem Sub.rd {H H' : Hp} {a : Addr} {u : HO} (e : Sub H H') (h : Rd H a u) : Rd H' a u := by
  rcases h with h | ⟨o, h⟩
  · exact Or.inl (e a _ h)
  · exact Or.inr ⟨o, e a _ h⟩
theorem Sub.sqL {K : PySem.W.Frag} {H H' : Hp} {a : Addr} {xs : List V} (e : Sub H H') (h : SqL K H a xs) : SqL K H' a xs := by
  rcases h with h | h
  · exact Or.inl (e.rd h)
  · exact Or.inr h
theorem Sub.sqT {K : PySem.W.Frag} {H H' : Hp} {a : Addr} {xs : List V} (e : Sub H H') (h : SqT K H a xs) : SqT K H' a xs := by
  rcases h with h | h
  · exact Or.inl (e.rd h)
  · exact Or.inr h

/-- the value v stands for the tree d, over the heap H -/
inductive DR (K : PySem.W.Frag) (H : Hp) : V → D → Prop
  | non : DR K H .non .non
  | bl (b : Bool) : DR K H (.bl b) (.bl b)
  | int (i : Int) : DR K H (.int i) (.int i)
  | str (x : Str) : DR K H (.str x) (.str x)
  | ty (n : String) : DR K H (.ty n) (.ty n)
  | adr (a : Addr) : DR K H (.ref a) (.adr a)
  | lst {a : Addr} {xs : List V} {ds : List D} : SqL K H a xs → xs.length = ds.length → (∀ (i : Nat) (v : V) (d : D), xs[i]? = some v → ds[i]? = some d → DR K H v d) → DR K H (.ref a) (.lst ds)
  | tup {a : Addr} {xs : List V} {ds : List D} : SqT K H a xs → xs.length = ds.length → (∀ (i : Nat) (v : V) (d : D), xs[i]? = some v → ds[i]? = some d → DR K H v d) → DR K H (.ref a) (.tup ds)
  | rng {a : Addr} {lo hi : Int} : H a = some (.rng lo hi) → DR K H (.ref a) (.rng lo hi)
  | obj {a C dx : Addr} {fs : List (Str × V)} {ds : List (Str × D)} : H a = some (.ins C dx fs) → fs.map (·.1) = ds.map (·.1) → (∀ (i : Nat) (v : V) (d : D), (fs[i]?.map (·.2)) = some v → (ds[i]?.map (·.2)) = some d → DR K H v d) → DR K H (.ref a) (.obj C ds)
  | dic {a : Addr} {kvs : List (Key × V)} {ds : List (Key × D)} : H a = some (.dK kvs) → kvs.map (·.1) = ds.map (·.1) → (∀ (i : Nat) (v : V) (d : D), (kvs[i]?.map (·.2)) = some v → (ds[i]?.map (·.2)) = some d → DR K H v d) → DR K H (.ref a) (.dic ds)

def DRs (K : PySem.W.Frag) (H : Hp) (xs : List V) (ds : List D) : Prop := xs.length = ds.length ∧ ∀ (i : Nat) (v : V) (d : D), xs[i]? = some v → ds[i]? = some d → DR K H v d

section
variable {K : PySem.W.Frag} {H H' : Hp} {v : V} {d : D} {xs ys : List V} {ds es : List D} {a : Addr}
theorem DR.mono (h : DR K H v d) (e : Sub H H') : DR K H' v d := by
  induction h with
  | non => exact .non
  | bl b => exact .bl b
  | int i => exact .int i
  | str x => exact .str x
  | ty n => exact .ty n
  | adr a => exact .adr a
  | lst h1 h2 _ ih => exact .lst (e.sqL h1) h2 ih
  | tup h1 h2 _ ih => exact .tup (e.sqT h1) h2 ih
  | rng h => exact .rng (e _ _ h)
  | obj h1 h2 _ ih => exact .obj (e _ _ h1) h2 ih
  | dic h1 h2 _ ih => exact .dic (e _ _ h1) h2 ih
theorem DRs.mono (h : DRs K H xs ds) (e : Sub H H') : DRs K H' xs ds := ⟨h.1, fun i v d a b => (h.2 i v d a b).mono e⟩
theorem DRs.nil : DRs K H [] [] := ⟨rfl, fun i v d a _ => by simp at a⟩
theorem DRs.cons (h : DR K H v d) (t : DRs K H xs ds) : DRs K H (v :: xs) (d :: ds) := by
  refine ⟨by simp [t.1], fun i w e a b => ?_⟩
  cases i with
  | zero =>
    simp at a b
    subst a b
    exact h
  | succ i => exact t.2 i w e (by simpa using a) (by simpa using b)
theorem DRs.get {i : Nat} (h : DRs K H xs ds) (e : ds[i]? = some d) : ∃ v, xs[i]? = some v ∧ DR K H v d := by
  have hi := (List.getElem?_eq_some_iff.mp e).1
  have q : xs[i]? = some (xs[i]'(by rw [h.1]; exact hi)) := List.getElem?_eq_getElem _
  exact ⟨_, q, h.2 i _ _ q e⟩
theorem DRs.append (h : DRs K H xs ds) (t : DRs K H ys es) : DRs K H (xs ++ ys) (ds ++ es) := by
  refine ⟨by simp [h.1, t.1], fun i w e a b => ?_⟩
  by_cases hi : i < xs.length
  · rw [List.getElem?_append_left hi] at a
    rw [List.getElem?_append_left (by rw [← h.1]; exact hi)] at b
    exact h.2 i w e a b
  · rw [List.getElem?_append_right (by omega)] at a
    rw [List.getElem?_append_right (by rw [← h.1]; omega)] at b
    rw [← h.1] at b
    exact t.2 _ w e a b
theorem DRs.take (n : Nat) (h : DRs K H xs ds) : DRs K H (xs.take n) (ds.take n) := by
  refine ⟨by simp [h.1], fun i w e a b => ?_⟩
  rw [List.getElem?_take] at a b
  split at a
  · rename_i hh
    rw [if_pos hh] at b
    exact h.2 i w e a b
  · cases a
theorem DRs.drop (n : Nat) (h : DRs K H xs ds) : DRs K H (xs.drop n) (ds.drop n) := by
  refine ⟨by simp [h.1], fun i w e a b => ?_⟩
  rw [List.getElem?_drop] at a b
  exact h.2 _ w e a b
theorem DRs.set (n : Nat) (h : DRs K H xs ds) (q : DR K H v d) : DRs K H (xs.set n v) (ds.set n d) := by
  refine ⟨by simp [h.1], fun i w e a b => ?_⟩
  by_cases hn : n = i
  · subst hn
    by_cases hl : n < xs.length
    · rw [List.getElem?_set_self hl] at a
      rw [List.getElem?_set_self (by rw [← h.1]; exact hl)] at b
      cases a
      cases b
      exact q
    · rw [List.getElem?_eq_none (by simpa using hl)] at a
      cases a
  · rw [List.getElem?_set_ne hn] at a b
    exact h.2 i w e a b
theorem DRs.reverse (h : DRs K H xs ds) : DRs K H xs.reverse ds.reverse := by
  refine ⟨by simp [h.1], fun i w e a b => ?_⟩
  have hi : i < xs.length := by simpa using (List.getElem?_eq_some_iff.mp a).1
  rw [List.getElem?_reverse hi] at a
  rw [List.getElem?_reverse (by rw [← h.1]; exact hi)] at b
  rw [← h.1] at b
  exact h.2 _ w e a b
theorem DRs.flat (n : Nat) (h : DRs K H xs ds) : DRs K H (List.replicate n xs).flatten (List.replicate n ds).flatten := by
  induction n with
  | zero => exact .nil
  | succ n ih =>
    simp only [List.replicate_succ, List.flatten_cons]
    exact h.append ih
theorem DRs.eraseIdx (n : Nat) (h : DRs K H xs ds) : DRs K H (xs.eraseIdx n) (ds.eraseIdx n) := by
  rw [List.eraseIdx_eq_take_drop_succ, List.eraseIdx_eq_take_drop_succ]
  exact (h.take n).append (h.drop (n + 1))
theorem DRs.dropLast (h : DRs K H xs ds) : DRs K H xs.dropLast ds.dropLast := by
  rw [List.dropLast_eq_take, List.dropLast_eq_take, h.1]
  exact h.take _
theorem DR.mkl (h : SqL K H a xs) (t : DRs K H xs ds) : DR K H (.ref a) (.lst ds) := .lst h t.1 t.2
theorem DR.mkt (h : SqT K H a xs) (t : DRs K H xs ds) : DR K H (.ref a) (.tup ds) := .tup h t.1 t.2
theorem DR.as_lst (h : DR K H v (.lst ds)) : ∃ a xs, v = .ref a ∧ SqL K H a xs ∧ DRs K H xs ds := by
  cases h with
  | lst h1 h2 h3 => exact ⟨_, _, rfl, h1, h2, h3⟩
theorem DR.as_tup (h : DR K H v (.tup ds)) : ∃ a xs, v = .ref a ∧ SqT K H a xs ∧ DRs K H xs ds := by
  cases h with
  | tup h1 h2 h3 => exact ⟨_, _, rfl, h1, h2, h3⟩
theorem DR.as_int {i : Int} (h : DR K H v (.int i)) : v = .int i := by cases h; rfl
theorem DR.as_bl {i : Bool} (h : DR K H v (.bl i)) : v = .bl i := by cases h; rfl
theorem DR.as_str {i : Str} (h : DR K H v (.str i)) : v = .str i := by cases h; rfl
theorem DR.as_non (h : DR K H v .non) : v = .non := by cases h; rfl
theorem DR.as_adr {i : Addr} (h : DR K H v (.adr i)) : v = .ref i := by cases h; rfl
theorem DR.as_rng {lo hi : Int} (h : DR K H v (.rng lo hi)) : ∃ a, v = .ref a ∧ H a = some (.rng lo hi) := by
  cases h with
  | rng h => exact ⟨_, rfl, h⟩
theorem DRs.ints {ns : List Int} (h : DRs K H xs (ns.map D.int)) : xs = ns.map V.int := by
  refine List.ext_getElem? fun i => ?_
  by_cases hi : i < xs.length
  · have h2 : i < ns.length := by rw [h.1] at hi; simpa using hi
    have e1 : xs[i]? = some xs[i] := List.getElem?_eq_getElem hi
    have e2 : (ns.map D.int)[i]? = some (D.int ns[i]) := by rw [List.getElem?_map, List.getElem?_eq_getElem h2]; rfl
    have q := (h.2 i _ _ e1 e2).as_int
    rw [e1, q, List.getElem?_map, List.getElem?_eq_getElem h2]
    rfl
  · rw [List.getElem?_eq_none (by omega), List.getElem?_eq_none (by rw [h.1] at hi; simpa using hi)]
theorem DRs.bls {ns : List Bool} (h : DRs K H xs (ns.map D.bl)) : xs = ns.map V.bl := by
  refine List.ext_getElem? fun i => ?_
  by_cases hi : i < xs.length
  · have h2 : i < ns.length := by rw [h.1] at hi; simpa using hi
    have e1 : xs[i]? = some xs[i] := List.getElem?_eq_getElem hi
    have e2 : (ns.map D.bl)[i]? = some (D.bl ns[i]) := by rw [List.getElem?_map, List.getElem?_eq_getElem h2]; rfl
    have q := (h.2 i _ _ e1 e2).as_bl
    rw [e1, q, List.getElem?_map, List.getElem?_eq_getElem h2]
    rfl
  · rw [List.getElem?_eq_none (by omega), List.getElem?_eq_none (by rw [h.1] at hi; simpa using hi)]
theorem DRs.of_ints (ns : List Int) : DRs K H (ns.map V.int) (ns.map D.int) := by
  refine ⟨by simp, fun i v d a b => ?_⟩
  rw [List.getElem?_map] at a b
  cases e : ns[i]? with
  | none => rw [e] at a; cases a
  | some n =>
    rw [e] at a b
    cases a
    cases b
    exact .int n
end
end DL

namespace DL
open PySem L2

/-! ### values of a running body: a tree, or a numbered cell (a mutable list or dict) -/
inductive W where | d (d : D) | c (k : Nat)
inductive Cell where | pl (ds : List D) | ml (ws : List W) | dic (kvs : List (Key × D)) | dead
structure G where
  rho : List (Option W)
  mu : List Cell
/-- an exception: its class, its fields (none where it has no own __init__) -/
structure Xc where
  cls : Value
  fs : Option (List (Str × D))

def WR (K : PySem.W.Frag) (Hi : Hp) (θ : List Addr) (v : V) : W → Prop
  | .d d => DR K Hi v d
  | .c k => ∃ a, θ[k]? = some a ∧ v = .ref a
def WRs (K : PySem.W.Frag) (Hi : Hp) (θ : List Addr) (xs : List V) (ws : List W) : Prop := xs.length = ws.length ∧ ∀ (i : Nat) (v : V) (w : W), xs[i]? = some v → ws[i]? = some w → WR K Hi θ v w
def DRk (K : PySem.W.Frag) (H : Hp) (ks : List (Key × V)) (ds : List (Key × D)) : Prop := ks.map (·.1) = ds.map (·.1) ∧ DRs K H (ks.map (·.2)) (ds.map (·.2))
def CellAt (K : PySem.W.Frag) (Hi : Hp) (θ : List Addr) (H : Hp) (a : Addr) : Cell → Prop
  | .pl ds => Hi a = none ∧ ∃ xs, H a = some (.lst xs) ∧ DRs K Hi xs ds
  | .ml ws => Hi a = none ∧ ∃ xs, H a = some (.lst xs) ∧ WRs K Hi θ xs ws
  | .dic kvs => Hi a = none ∧ ∃ ks, H a = some (.dK ks) ∧ DRk K Hi ks kvs
  | .dead => True
structure MF (K : PySem.W.Frag) (Hi H : Hp) (θ : List Addr) (μ : List Cell) : Prop where
  sub : Sub Hi H
  len : θ.length = μ.length
  nd : θ.Nodup
  there : ∀ a ∈ θ, H a ≠ none
  cell : ∀ (k : Nat) (a : Addr) (c : Cell), θ[k]? = some a → μ[k]? = some c → CellAt K Hi θ H a c
structure Fit (K : PySem.W.Frag) (Hi H : Hp) (θ : List Addr) (σ : L2.St) (g : G) : Prop where
  mf : MF K Hi H θ g.mu
  len : σ.length = g.rho.length
  slot : ∀ (i : Nat) (w : W), g.rho[i]? = some (some w) → ∃ v, σ[i]? = some (some v) ∧ WR K Hi θ v w
structure Go (Hi H : Hp) (θ : List Addr) (Hi' H' : Hp) (θ' : List Addr) : Prop where
  ext : ∃ ν, θ' = θ ++ ν ∧ ∀ a ∈ ν, H a = none
  hi : Sub Hi Hi'
  new : ∀ a o, Hi' a = some o → Hi a = some o ∨ H a = none ∨ a ∈ θ
  keep : ∀ a o, H a = some o → a ∉ θ → H' a = some o
  there : ∀ a ∈ θ', H' a ≠ none
def XR (K : PySem.W.Frag) (Hi H : Hp) (d : Option Addr) (x : Xc) : Prop := match x.fs with
  | none => d = none
  | some fs => ∃ dd ks, d = some dd ∧ H dd = some (.xd ks) ∧ ks.map (·.1) = fs.map (·.1) ∧ DRs K Hi (ks.map (·.2)) (fs.map (·.2))

section
variable {K : PySem.W.Frag} {Hi H Hi' H' Hi2 H2 : Hp} {θ θ' θ2 : List Addr} {v : V} {w : W} {xs ys : List V} {ws us : List W} {σ : L2.St} {g : G} {a p : Addr} {o : HO} {c : Cell} {μ : List Cell}
theorem Go.refl (m : MF K Hi H θ μ) : Go Hi H θ Hi H θ := ⟨⟨[], by simp, fun _ h => by simp at h⟩, Sub.refl _, fun _ _ h => .inl h, fun _ _ h _ => h, m.there⟩
theorem Go.back (x : Go Hi H θ Hi' H' θ') {b : Addr} (hb : H' b = none) : H b = none := by
  cases q : H b with
  | none => rfl
  | some u =>
    by_cases hm : b ∈ θ
    · obtain ⟨ν, e1, f1⟩ := x.ext
      exact absurd hb (x.there b (by rw [e1]; exact List.mem_append_left _ hm))
    · rw [x.keep b u q hm] at hb
      cases hb
theorem Go.trans (x : Go Hi H θ Hi' H' θ') (y : Go Hi' H' θ' Hi2 H2 θ2) : Go Hi H θ Hi2 H2 θ2 := by
  obtain ⟨ν, e1, f1⟩ := x.ext
  obtain ⟨ν2, e2, f2⟩ := y.ext
  refine ⟨⟨ν ++ ν2, by simp [e1, e2], fun b hb => ?_⟩, x.hi.trans y.hi, fun b u h => ?_, fun b u h hm => ?_, y.there⟩
  · rcases List.mem_append.mp hb with h | h
    · exact f1 b h
    · exact x.back (f2 b h)
  · rcases y.new b u h with h | h | h
    · exact x.new b u h
    · exact .inr (.inl (x.back h))
    · rw [e1] at h
      rcases List.mem_append.mp h with h | h
      · exact .inr (.inr h)
      · exact .inr (.inl (f1 b h))
  · refine y.keep b u (x.keep b u h hm) fun h2 => ?_
    rw [e1] at h2
    rcases List.mem_append.mp h2 with h3 | h3
    · exact hm h3
    · rw [f1 b h3] at h
      cases h
theorem WR.go (h : WR K Hi θ v w) (x : Go Hi H θ Hi' H' θ') : WR K Hi' θ' v w := by
  cases w with
  | d d => exact DR.mono h x.hi
  | c k =>
    obtain ⟨a, h1, h2⟩ := h
    obtain ⟨ν, e, _⟩ := x.ext
    refine ⟨a, ?_, h2⟩
    rw [e, List.getElem?_append_left (List.getElem?_eq_some_iff.mp h1).1]
    exact h1
theorem WRs.go (h : WRs K Hi θ xs ws) (x : Go Hi H θ Hi' H' θ') : WRs K Hi' θ' xs ws := ⟨h.1, fun i v w a b => (h.2 i v w a b).go x⟩
theorem WRs.nil : WRs K Hi θ [] [] := ⟨rfl, fun i v d a _ => by simp at a⟩
theorem WRs.cons (h : WR K Hi θ v w) (t : WRs K Hi θ xs ws) : WRs K Hi θ (v :: xs) (w :: ws) := by
  refine ⟨by simp [t.1], fun i u e a b => ?_⟩
  cases i with
  | zero =>
    simp at a b
    subst a b
    exact h
  | succ i => exact t.2 i u e (by simpa using a) (by simpa using b)
theorem WRs.uncons (h : WRs K Hi θ xs (w :: ws)) : ∃ v ys, xs = v :: ys ∧ WR K Hi θ v w ∧ WRs K Hi θ ys ws := by
  cases xs with
  | nil => exact absurd h.1 (by simp)
  | cons v ys => exact ⟨v, ys, rfl, h.2 0 v w rfl rfl, by simpa using h.1, fun i v w a b => h.2 (i + 1) v w (by simpa using a) (by simpa using b)⟩
theorem WRs.unnil (h : WRs K Hi θ xs []) : xs = [] := List.eq_nil_of_length_eq_zero h.1
theorem WRs.append (h : WRs K Hi θ xs ws) (t : WRs K Hi θ ys us) : WRs K Hi θ (xs ++ ys) (ws ++ us) := by
  refine ⟨by simp [h.1, t.1], fun i w e a b => ?_⟩
  by_cases hi : i < xs.length
  · rw [List.getElem?_append_left hi] at a
    rw [List.getElem?_append_left (by rw [← h.1]; exact hi)] at b
    exact h.2 i w e a b
  · rw [List.getElem?_append_right (by omega)] at a
    rw [List.getElem?_append_right (by rw [← h.1]; omega)] at b
    rw [← h.1] at b
    exact t.2 _ w e a b
theorem WRs.set (n : Nat) (h : WRs K Hi θ xs ws) (q : WR K Hi θ v w) : WRs K Hi θ (xs.set n v) (ws.set n w) := by
  refine ⟨by simp [h.1], fun i u e a b => ?_⟩
  by_cases hn : n = i
  · subst hn
    by_cases hl : n < xs.length
    · rw [List.getElem?_set_self hl] at a
      rw [List.getElem?_set_self (by rw [← h.1]; exact hl)] at b
      cases a
      cases b
      exact q
    · rw [List.getElem?_eq_none (by simpa using hl)] at a
      cases a
  · rw [List.getElem?_set_ne hn] at a b
    exact h.2 i u e a b
theorem WRs.get {i : Nat} (h : WRs K Hi θ xs ws) (e : ws[i]? = some w) : ∃ v, xs[i]? = some v ∧ WR K Hi θ v w := by
  have hi := (List.getElem?_eq_some_iff.mp e).1
  have q : xs[i]? = some (xs[i]'(by rw [h.1]; exact hi)) := List.getElem?_eq_getElem _
  exact ⟨_, q, h.2 i _ _ q e⟩
theorem WRs.of_drs {ds : List D} (h : WRs K Hi θ xs (ds.map W.d)) : DRs K Hi xs ds := by
  refine ⟨by simpa using h.1, fun i v d a b => ?_⟩
  exact h.2 i v (.d d) a (by rw [List.getElem?_map, b]; rfl)
theorem WRs.to_drs {ds : List D} (h : DRs K Hi xs ds) : WRs K Hi θ xs (ds.map W.d) := by
  refine ⟨by simpa using h.1, fun i v w a b => ?_⟩
  rw [List.getElem?_map] at b
  cases e : ds[i]? with
  | none => rw [e] at b; cases b
  | some d =>
    rw [e] at b
    cases b
    exact h.2 i v d a e
theorem CellAt.mono (h : CellAt K Hi θ H a c) (e : Sub Hi Hi') (hn : c = .dead ∨ Hi' a = none) (hθ : ∃ ν, θ' = θ ++ ν) (hH : H' a = H a) : CellAt K Hi' θ' H' a c := by
  obtain ⟨ν, eν⟩ := hθ
  have wm : ∀ (v : V) (w : W), WR K Hi θ v w → WR K Hi' θ' v w := fun v w q => by
    cases w with
    | d d => exact DR.mono q e
    | c k =>
      obtain ⟨b, h1, h2⟩ := q
      refine ⟨b, ?_, h2⟩
      rw [eν, List.getElem?_append_left (List.getElem?_eq_some_iff.mp h1).1]
      exact h1
  cases c with
  | dead => trivial
  | pl ds =>
    obtain ⟨h1, xs, h2, h3⟩ := h
    rcases hn with q | q
    · cases q
    · exact ⟨q, xs, by rw [hH]; exact h2, h3.mono e⟩
  | ml ws =>
    obtain ⟨h1, xs, h2, h3⟩ := h
    rcases hn with q | q
    · cases q
    · exact ⟨q, xs, by rw [hH]; exact h2, h3.1, fun i v w a b => wm v w (h3.2 i v w a b)⟩
  | dic ks =>
    obtain ⟨h1, xs, h2, h3⟩ := h
    rcases hn with q | q
    · cases q
    · exact ⟨q, xs, by rw [hH]; exact h2, h3.1, h3.2.mono e⟩
theorem CellAt.no (h : CellAt K Hi θ H a c) (hc : c ≠ .dead) : Hi a = none := by
  cases c with
  | dead => exact absurd rfl hc
  | pl ds => exact h.1
  | ml ds => exact h.1
  | dic ds => exact h.1
/-- a thing that is never changed is laid anew -/
theorem MF.newI (m : MF K Hi H θ μ) (hp : H p = none) : MF K (upd Hi p o) (upd H p o) θ μ := by
  have hpi : Hi p = none := m.sub.none hp
  have hne : ∀ a ∈ θ, a ≠ p := fun a ha q => m.there a ha (by rw [q]; exact hp)
  refine ⟨m.sub.upd, m.len, m.nd, fun a ha => by rw [upd_ne (hne a ha)]; exact m.there a ha, fun k a c h1 h2 => ?_⟩
  have ha := hne a (List.mem_of_getElem? h1)
  refine (m.cell k a c h1 h2).mono (Sub.new hpi) ?_ ⟨[], by simp⟩ (upd_ne ha)
  by_cases hc : c = .dead
  · exact .inl hc
  · exact .inr (by rw [upd_ne ha]; exact (m.cell k a c h1 h2).no hc)
theorem Go.newI (m : MF K Hi H θ μ) (hp : H p = none) : Go Hi H θ (upd Hi p o) (upd H p o) θ := by
  have hne : ∀ a ∈ θ, a ≠ p := fun a ha q => m.there a ha (by rw [q]; exact hp)
  refine ⟨⟨[], by simp, fun _ h => by simp at h⟩, Sub.new (m.sub.none hp), fun a u h => ?_, fun a u h _ => by rw [upd_ne (ne_of_none h hp)]; exact h, fun a ha => by rw [upd_ne (hne a ha)]; exact m.there a ha⟩
  by_cases q : a = p
  · exact .inr (.inl (by rw [q]; exact hp))
  · rw [upd_ne q] at h
    exact .inl h
/-- a new cell -/
theorem MF.newC (m : MF K Hi H θ μ) (hp : H p = none) (hc : CellAt K Hi (θ ++ [p]) (upd H p o) p c) : MF K Hi (upd H p o) (θ ++ [p]) (μ ++ [c]) := by
  have hne : ∀ a ∈ θ, a ≠ p := fun a ha q => m.there a ha (by rw [q]; exact hp)
  refine ⟨m.sub.mut (m.sub.none hp), by simp [m.len], ?_, fun a ha => ?_, fun k a c' h1 h2 => ?_⟩
  · rw [List.nodup_append]
    refine ⟨m.nd, by simp, fun a ha b hb q => ?_⟩
    simp at hb
    subst hb
    exact hne a ha q
  · rcases List.mem_append.mp ha with h | h
    · rw [upd_ne (hne a h)]; exact m.there a h
    · simp at h
      subst h
      rw [upd_same]
      intro q
      cases q
  · by_cases hk : k < θ.length
    · rw [List.getElem?_append_left hk] at h1
      rw [List.getElem?_append_left (by rw [← m.len]; exact hk)] at h2
      have ha := hne a (List.mem_of_getElem? h1)
      refine (m.cell k a c' h1 h2).mono (Sub.refl _) ?_ ⟨[p], rfl⟩ (upd_ne ha)
      by_cases q : c' = .dead
      · exact .inl q
      · exact .inr ((m.cell k a c' h1 h2).no q)
    · rw [List.getElem?_append_right (by omega)] at h1
      rw [List.getElem?_append_right (by rw [← m.len]; omega)] at h2
      rw [← m.len] at h2
      have e0 : k - θ.length = 0 := by
        have := (List.getElem?_eq_some_iff.mp h1).1
        simp at this
        omega
      rw [e0] at h1 h2
      simp at h1 h2
      subst h1 h2
      exact hc
theorem Go.newC (m : MF K Hi H θ μ) (hp : H p = none) : Go Hi H θ Hi (upd H p o) (θ ++ [p]) := by
  have hne : ∀ a ∈ θ, a ≠ p := fun a ha q => m.there a ha (by rw [q]; exact hp)
  refine ⟨⟨[p], rfl, fun a h => by simp at h; subst h; exact hp⟩, Sub.refl _, fun a u h => .inl h, fun a u h _ => by rw [upd_ne (ne_of_none h hp)]; exact h, fun a ha => ?_⟩
  rcases List.mem_append.mp ha with h | h
  · rw [upd_ne (hne a h)]; exact m.there a h
  · simp at h
    subst h
    rw [upd_same]
    intro q
    cases q
/-- a cell is written -/
theorem MF.setC {k : Nat} {c0 : Cell} (m : MF K Hi H θ μ) (hk : θ[k]? = some a) (h0 : μ[k]? = some c0) (hd : c0 ≠ .dead) (hc : CellAt K Hi θ (upd H a o) a c) : MF K Hi (upd H a o) θ (μ.set k c) := by
  have hn := (m.cell k a c0 hk h0).no hd
  refine ⟨m.sub.mut hn, by simp [m.len], m.nd, fun b hb => ?_, fun j b c' h1 h2 => ?_⟩
  · by_cases q : b = a
    · subst q
      rw [upd_same]
      intro q
      cases q
    · rw [upd_ne q]; exact m.there b hb
  · by_cases q : k = j
    · subst q
      rw [hk] at h1
      cases h1
      rw [List.getElem?_set_self (by rw [← m.len]; exact (List.getElem?_eq_some_iff.mp hk).1)] at h2
      cases h2
      exact hc
    · rw [List.getElem?_set_ne q] at h2
      have hba : b ≠ a := fun e => by
        subst e
        obtain ⟨i1, e1⟩ := List.getElem?_eq_some_iff.mp hk
        obtain ⟨i2, e2⟩ := List.getElem?_eq_some_iff.mp h1
        exact q ((List.getElem_inj m.nd).mp (e1.trans e2.symm))
      refine (m.cell j b c' h1 h2).mono (Sub.refl _) ?_ ⟨[], by simp⟩ (upd_ne hba)
      by_cases q : c' = .dead
      · exact .inl q
      · exact .inr ((m.cell j b c' h1 h2).no q)
theorem Go.setC {k : Nat} (m : MF K Hi H θ μ) (hk : θ[k]? = some a) : Go Hi H θ Hi (upd H a o) θ := by
  have ha := List.mem_of_getElem? hk
  refine ⟨⟨[], by simp, fun _ h => by simp at h⟩, Sub.refl _, fun a u h => .inl h, fun b u h hb => ?_, fun b hb => ?_⟩
  · rw [upd_ne (fun q => hb (by rw [q]; exact ha))]; exact h
  · by_cases q : b = a
    · subst q
      rw [upd_same]
      intro q
      cases q
    · rw [upd_ne q]; exact m.there b hb
/-- a cell is frozen: from here on it is a tree -/
theorem MF.frz {k : Nat} {ds : List D} (m : MF K Hi H θ μ) (h0 : μ[k]? = some (.pl ds)) : ∃ a Hi', θ[k]? = some a ∧ DR K Hi' (.ref a) (.lst ds) ∧ MF K Hi' H θ (μ.set k .dead) ∧ Go Hi H θ Hi' H θ := by
  have hlt : k < θ.length := by rw [m.len]; exact (List.getElem?_eq_some_iff.mp h0).1
  have hk : θ[k]? = some θ[k] := List.getElem?_eq_getElem hlt
  obtain ⟨hn, xs, hx, hd⟩ := m.cell k _ _ hk h0
  have sb : Sub Hi (upd Hi θ[k] (.lst xs)) := Sub.new hn
  refine ⟨θ[k], upd Hi θ[k] (.lst xs), hk, .mkl (.of upd_same) (hd.mono sb), ⟨fun b u h => ?_, by simp [m.len], m.nd, m.there, fun j b c h1 h2 => ?_⟩, ⟨⟨[], by simp, fun _ h => by simp at h⟩, sb, fun b u h => ?_, fun b u h _ => h, m.there⟩⟩
  · by_cases q : b = θ[k]
    · subst q
      rw [upd_same] at h
      cases h
      exact hx
    · rw [upd_ne q] at h
      exact m.sub b u h
  · by_cases q : k = j
    · subst q
      rw [List.getElem?_set_self (by rw [← m.len]; exact hlt)] at h2
      cases h2
      trivial
    · rw [List.getElem?_set_ne q] at h2
      have hba : b ≠ θ[k] := fun e => by
        subst e
        obtain ⟨i2, e2⟩ := List.getElem?_eq_some_iff.mp h1
        exact q ((List.getElem_inj m.nd).mp e2.symm)
      refine (m.cell j b c h1 h2).mono sb ?_ ⟨[], by simp⟩ rfl
      by_cases q : c = .dead
      · exact .inl q
      · exact .inr (by rw [upd_ne hba]; exact (m.cell j b c h1 h2).no q)
  · by_cases q : b = θ[k]
    · exact .inr (.inr (by rw [q]; exact List.getElem_mem hlt))
    · rw [upd_ne q] at h
      exact .inl h
theorem MF.frzD {k : Nat} {ds : List (Key × D)} (m : MF K Hi H θ μ) (h0 : μ[k]? = some (.dic ds)) : ∃ a Hi', θ[k]? = some a ∧ DR K Hi' (.ref a) (.dic ds) ∧ MF K Hi' H θ (μ.set k .dead) ∧ Go Hi H θ Hi' H θ := by
  have hlt : k < θ.length := by rw [m.len]; exact (List.getElem?_eq_some_iff.mp h0).1
  have hk : θ[k]? = some θ[k] := List.getElem?_eq_getElem hlt
  obtain ⟨hn, xs, hx, hd⟩ := m.cell k _ _ hk h0
  have sb : Sub Hi (upd Hi θ[k] (.dK xs)) := Sub.new hn
  refine ⟨θ[k], upd Hi θ[k] (.dK xs), hk, .dic upd_same hd.1 (fun i v d a b => ?_), ⟨fun b u h => ?_, by simp [m.len], m.nd, m.there, fun j b c h1 h2 => ?_⟩, ⟨⟨[], by simp, fun _ h => by simp at h⟩, sb, fun b u h => ?_, fun b u h _ => h, m.there⟩⟩
  · exact (hd.2.mono sb).2 i v d (by rw [List.getElem?_map]; exact a) (by rw [List.getElem?_map]; exact b)
  · by_cases q : b = θ[k]
    · subst q
      rw [upd_same] at h
      cases h
      exact hx
    · rw [upd_ne q] at h
      exact m.sub b u h
  · by_cases q : k = j
    · subst q
      rw [List.getElem?_set_self (by rw [← m.len]; exact hlt)] at h2
      cases h2
      trivial
    · rw [List.getElem?_set_ne q] at h2
      have hba : b ≠ θ[k] := fun e => by
        subst e
        obtain ⟨i2, e2⟩ := List.getElem?_eq_some_iff.mp h1
        exact q ((List.getElem_inj m.nd).mp e2.symm)
      refine (m.cell j b c h1 h2).mono sb ?_ ⟨[], by simp⟩ rfl
      by_cases q : c = .dead
      · exact .inl q
      · exact .inr (by rw [upd_ne hba]; exact (m.cell j b c h1 h2).no q)
  · by_cases q : b = θ[k]
    · exact .inr (.inr (by rw [q]; exact List.getElem_mem hlt))
    · rw [upd_ne q] at h
      exact .inl h

theorem MF.frzM {k : Nat} {us : List W} {es : List D} (m : MF K Hi H θ μ) (hk : θ[k]? = some a) (h0 : μ[k]? = some (.ml us)) (hx : H a = some (.lst xs)) (hd : DRs K Hi xs es) : ∃ Hi', DR K Hi' (.ref a) (.lst es) ∧ MF K Hi' H θ (μ.set k .dead) ∧ Go Hi H θ Hi' H θ := by
  have hlt : k < θ.length := by rw [m.len]; exact (List.getElem?_eq_some_iff.mp h0).1
  have hn : Hi a = none := (m.cell k _ _ hk h0).1
  have sb : Sub Hi (upd Hi a (.lst xs)) := Sub.new hn
  refine ⟨upd Hi a (.lst xs), .mkl (.of upd_same) (hd.mono sb), ⟨fun b u h => ?_, by simp [m.len], m.nd, m.there, fun j b c h1 h2 => ?_⟩, ⟨⟨[], by simp, fun _ h => by simp at h⟩, sb, fun b u h => ?_, fun b u h _ => h, m.there⟩⟩
  · by_cases q : b = a
    · subst q
      rw [upd_same] at h
      cases h
      exact hx
    · rw [upd_ne q] at h
      exact m.sub b u h
  · by_cases q : k = j
    · subst q
      rw [List.getElem?_set_self (by rw [← m.len]; exact hlt)] at h2
      cases h2
      trivial
    · rw [List.getElem?_set_ne q] at h2
      have hba : b ≠ a := fun e => by
        subst e
        obtain ⟨i1, e1⟩ := List.getElem?_eq_some_iff.mp hk
        obtain ⟨i2, e2⟩ := List.getElem?_eq_some_iff.mp h1
        exact q ((List.getElem_inj m.nd).mp (e1.trans e2.symm))
      refine (m.cell j b c h1 h2).mono sb ?_ ⟨[], by simp⟩ rfl
      by_cases q : c = .dead
      · exact .inl q
      · exact .inr (by rw [upd_ne hba]; exact (m.cell j b c h1 h2).no q)
  · by_cases q : b = a
    · exact .inr (.inr (by rw [q]; exact List.mem_of_getElem? hk))
    · rw [upd_ne q] at h
      exact .inl h

/-! ### the frame's slots -/
theorem Fit.go {μ' : List Cell} (f : Fit K Hi H θ σ g) (m : MF K Hi' H' θ' μ') (x : Go Hi H θ Hi' H' θ') : Fit K Hi' H' θ' σ ⟨g.rho, μ'⟩ :=
  ⟨m, f.len, fun i w h => let ⟨v, h1, h2⟩ := f.slot i w h; ⟨v, h1, h2.go x⟩⟩
theorem Fit.set {i : Nat} (f : Fit K Hi H θ σ g) (r : WR K Hi θ v w) : Fit K Hi H θ (σ.set i (some v)) ⟨g.rho.set i (some w), g.mu⟩ := by
  refine ⟨f.mf, by simp [f.len], fun j u h => ?_⟩
  have h : (g.rho.set i (some w))[j]? = some (some u) := h
  by_cases q : i = j
  · subst q
    by_cases hl : i < g.rho.length
    · rw [List.getElem?_set_self hl] at h
      cases h
      exact ⟨v, by rw [List.getElem?_set_self (by rw [f.len]; exact hl)], r⟩
    · rw [List.getElem?_eq_none (by simpa using hl)] at h
      cases h
  · rw [List.getElem?_set_ne q] at h
    obtain ⟨v', h1, h2⟩ := f.slot j u h
    exact ⟨v', by rw [List.getElem?_set_ne q]; exact h1, h2⟩
theorem Fit.val {i : Nat} (f : Fit K Hi H θ σ g) (h : g.rho[i]? = some (some w)) : ∃ v, σ[i]? = some (some v) ∧ WR K Hi θ v w := f.slot i w h
/-- forgetting slots -/
theorem Fit.weak {ρ : List (Option W)} (f : Fit K Hi H θ σ g) (hl : ρ.length = g.rho.length) (h : ∀ (i : Nat) (w : W), ρ[i]? = some (some w) → g.rho[i]? = some (some w)) : Fit K Hi H θ σ ⟨ρ, g.mu⟩ :=
  ⟨f.mf, f.len.trans hl.symm, fun i w q => f.slot i w (h i w q)⟩
end
end DL

namespace DL
open PySem L2

/-! ### what must hold so that .. -/
structure Mx where
  K : PySem.W.Frag
  W : WX
  qx : Xc → G → Prop
abbrev QE := W → G → Prop
def XOk (M : Mx) (Hi H : Hp) (θ : List Addr) : Prop := ∀ x g' σ' d Hi' H' θ', M.qx x g' → Fit M.K Hi' H' θ' σ' g' → XR M.K Hi' H' d x → Go Hi H θ Hi' H' θ' → M.W x.cls d σ' H'
def PostE (M : Mx) (Hi H : Hp) (θ : List Addr) (σ : L2.St) (Q : QE) (R : VK) : Prop := ∀ w g' v Hi' H' θ', Q w g' → Fit M.K Hi' H' θ' σ g' → WR M.K Hi' θ' v w → Go Hi H θ Hi' H' θ' → R v H'
def PostT (M : Mx) (Hi H : Hp) (θ : List Addr) (σ : L2.St) (Q : Bool → G → Prop) (R : Bool → Hp → Prop) : Prop := ∀ b g' Hi' H' θ', Q b g' → Fit M.K Hi' H' θ' σ g' → Go Hi H θ Hi' H' θ' → R b H'
def PostA (M : Mx) (Hi H : Hp) (θ : List Addr) (σ : L2.St) (Q : List W → G → Prop) (R : List V → Hp → Prop) : Prop := ∀ ws g' vs Hi' H' θ', Q ws g' → Fit M.K Hi' H' θ' σ g' → WRs M.K Hi' θ' vs ws → Go Hi H θ Hi' H' θ' → R vs H'
def wpE (M : Mx) (t : TE) (g : G) (Q : QE) : Prop := ∀ Hi H θ σ, Fit M.K Hi H θ σ g → XOk M Hi H θ → ∀ R : VK, PostE M Hi H θ σ Q R → t σ H R
def wpT (M : Mx) (t : TT) (g : G) (Q : Bool → G → Prop) : Prop := ∀ Hi H θ σ, Fit M.K Hi H θ σ g → XOk M Hi H θ → ∀ R : Bool → Hp → Prop, PostT M Hi H θ σ Q R → t σ H R
def wpA (M : Mx) (t : TA) (g : G) (Q : List W → G → Prop) : Prop := ∀ Hi H θ σ, Fit M.K Hi H θ σ g → XOk M Hi H θ → ∀ R : List V → Hp → Prop, PostA M Hi H θ σ Q R → t σ H R
/-- a two-place operation, a one-place one, a call of a built-in, by data -/
def opD (M : Mx) (r : R2) (x y : W) (g : G) (Q : QE) : Prop := ∀ Hi H θ σ, Fit M.K Hi H θ σ g → XOk M Hi H θ → ∀ v u, WR M.K Hi θ v x → WR M.K Hi θ u y → ∀ R : VK, PostE M Hi H θ σ Q R → r v u H R
def unD (M : Mx) (r : V → Hp → VK → Prop) (x : W) (g : G) (Q : QE) : Prop := ∀ Hi H θ σ, Fit M.K Hi H θ σ g → XOk M Hi H θ → ∀ v, WR M.K Hi θ v x → ∀ R : VK, PostE M Hi H θ σ Q R → r v H R
def cbD (M : Mx) (r : List V → Hp → VK → Prop) (xs : List W) (g : G) (Q : QE) : Prop := ∀ Hi H θ σ, Fit M.K Hi H θ σ g → XOk M Hi H θ → ∀ vs, WRs M.K Hi θ vs xs → ∀ R : VK, PostE M Hi H θ σ Q R → r vs H R
def mtD (M : Mx) (r : V → List V → Hp → VK → Prop) (x : W) (xs : List W) (g : G) (Q : QE) : Prop := ∀ Hi H θ σ, Fit M.K Hi H θ σ g → XOk M Hi H θ → ∀ v vs, WR M.K Hi θ v x → WRs M.K Hi θ vs xs → ∀ R : VK, PostE M Hi H θ σ Q R → r v vs H R

/-- what is wanted behind a statement -/
structure N where
  nx : G → Prop
  rt : W → List Cell → Prop
  bk : G → Prop := fun _ => False
  ct : G → Prop := fun _ => False
structure EOk (M : Mx) (Hi H : Hp) (θ : List Addr) (n : N) (D : Ends) : Prop where
  nx : ∀ g' σ' Hi' H' θ', n.nx g' → Fit M.K Hi' H' θ' σ' g' → Go Hi H θ Hi' H' θ' → D.nx σ' H'
  rt : ∀ w μ' v Hi' H' θ', n.rt w μ' → MF M.K Hi' H' θ' μ' → WR M.K Hi' θ' v w → Go Hi H θ Hi' H' θ' → D.rt v H'
  bk : ∀ g' σ' Hi' H' θ', n.bk g' → Fit M.K Hi' H' θ' σ' g' → Go Hi H θ Hi' H' θ' → D.bk σ' H'
  ct : ∀ g' σ' Hi' H' θ', n.ct g' → Fit M.K Hi' H' θ' σ' g' → Go Hi H θ Hi' H' θ' → D.ct σ' H'
def wpS (M : Mx) (t : TS) (g : G) (n : N) : Prop := ∀ Hi H θ σ, Fit M.K Hi H θ σ g → XOk M Hi H θ → ∀ D : Ends, EOk M Hi H θ n D → t D σ H
/-- a store -/
def wpG (M : Mx) (t : TG) (w : W) (g : G) (Q : G → Prop) : Prop := ∀ Hi H θ σ, Fit M.K Hi H θ σ g → XOk M Hi H θ → ∀ v, WR M.K Hi θ v w → ∀ R : L2.St → Hp → Prop,
  (∀ g' σ' Hi' H' θ', Q g' → Fit M.K Hi' H' θ' σ' g' → Go Hi H θ Hi' H' θ' → R σ' H') → t v σ H R
def wpGs (M : Mx) (t : TGs) (ws : List W) (g : G) (Q : G → Prop) : Prop := ∀ Hi H θ σ, Fit M.K Hi H θ σ g → XOk M Hi H θ → ∀ vs, WRs M.K Hi θ vs ws → ∀ R : L2.St → Hp → Prop,
  (∀ g' σ' Hi' H' θ', Q g' → Fit M.K Hi' H' θ' σ' g' → Go Hi H θ Hi' H' θ' → R σ' H') → t vs σ H R

section
variable {M : Mx} {Hi H Hi' H' : Hp} {θ θ' : List Addr} {σ : L2.St} {g g1 : G} {Q : QE} {R : VK} {w x y : W} {v : V} {d : D} {p : Addr} {o : HO} {c : Cell} {ds es : List D} {k : Nat}
theorem XOk.go (h : XOk M Hi H θ) (x : Go Hi H θ Hi' H' θ') : XOk M Hi' H' θ' := fun a b c d e f g h1 h2 h3 h4 => h a b c d e f g h1 h2 h3 (x.trans h4)
theorem EOk.go {n : N} {D : Ends} (h : EOk M Hi H θ n D) (x : Go Hi H θ Hi' H' θ') : EOk M Hi' H' θ' n D :=
  ⟨fun a b c d e h1 h2 h3 => h.nx a b c d e h1 h2 (x.trans h3), fun a b c d e f h1 h2 h3 h4 => h.rt a b c d e f h1 h2 h3 (x.trans h4),
   fun a b c d e h1 h2 h3 => h.bk a b c d e h1 h2 (x.trans h3), fun a b c d e h1 h2 h3 => h.ct a b c d e h1 h2 (x.trans h3)⟩
theorem PostE.go {Q : QE} (h : PostE M Hi H θ σ Q R) (x : Go Hi H θ Hi' H' θ') : PostE M Hi' H' θ' σ Q R := fun a b c d e f h1 h2 h3 h4 => h a b c d e f h1 h2 h3 (x.trans h4)
theorem PostE.now (h : PostE M Hi H θ σ Q R) (f : Fit M.K Hi H θ σ g) (r : WR M.K Hi θ v w) (q : Q w g) : R v H := h w g v Hi H θ q f r (Go.refl f.mf)
/-- a new thing that never changes -/
theorem PostE.newI (h : PostE M Hi H θ σ Q R) (f : Fit M.K Hi H θ σ g) (hp : H p = none) (r : DR M.K (upd Hi p o) (.ref p) d) (q : Q (.d d) g) : R (.ref p) (upd H p o) :=
  h (.d d) g (.ref p) _ _ θ q (f.go (f.mf.newI hp) (Go.newI f.mf hp)) r (Go.newI f.mf hp)
theorem PostE.newL {xs : List V} (h : PostE M Hi H θ σ Q R) (f : Fit M.K Hi H θ σ g) (hp : H p = none) (r : DRs M.K Hi xs ds) (q : Q (.d (.lst ds)) g) : R (.ref p) (upd H p (.lst xs)) :=
  h.newI f hp (.mkl (.of upd_same) (r.mono (Sub.new (f.mf.sub.none hp)))) q
theorem PostE.newT {xs : List V} (h : PostE M Hi H θ σ Q R) (f : Fit M.K Hi H θ σ g) (hp : H p = none) (r : DRs M.K Hi xs ds) (q : Q (.d (.tup ds)) g) : R (.ref p) (upd H p (.tup xs)) :=
  h.newI f hp (.mkt (.of upd_same) (r.mono (Sub.new (f.mf.sub.none hp)))) q
/-- a new cell -/
theorem PostE.newC (h : PostE M Hi H θ σ Q R) (f : Fit M.K Hi H θ σ g) (hp : H p = none) (hc : CellAt M.K Hi (θ ++ [p]) (upd H p o) p c) (q : Q (.c g.mu.length) ⟨g.rho, g.mu ++ [c]⟩) : R (.ref p) (upd H p o) :=
  h (.c g.mu.length) ⟨g.rho, g.mu ++ [c]⟩ (.ref p) _ _ (θ ++ [p]) q (f.go (f.mf.newC hp hc) (Go.newC f.mf hp)) ⟨p, by rw [← f.mf.len]; simp, rfl⟩ (Go.newC f.mf hp)
theorem PostE.newPl {xs : List V} (h : PostE M Hi H θ σ Q R) (f : Fit M.K Hi H θ σ g) (hp : H p = none) (r : DRs M.K Hi xs ds) (q : Q (.c g.mu.length) ⟨g.rho, g.mu ++ [.pl ds]⟩) : R (.ref p) (upd H p (.lst xs)) :=
  h.newC (c := .pl ds) f hp ⟨f.mf.sub.none hp, xs, upd_same, r⟩ q
theorem PostE.newMl {xs : List V} {ws : List W} (h : PostE M Hi H θ σ Q R) (f : Fit M.K Hi H θ σ g) (hp : H p = none) (r : WRs M.K Hi θ xs ws) (q : Q (.c g.mu.length) ⟨g.rho, g.mu ++ [.ml ws]⟩) : R (.ref p) (upd H p (.lst xs)) :=
  h.newC (c := .ml ws) f hp ⟨f.mf.sub.none hp, xs, upd_same, r.go (Go.newC (o := .lst xs) f.mf hp)⟩ q
/-- a cell is written -/
theorem PostE.setC {a : Addr} {c0 : Cell} (h : PostE M Hi H θ σ Q R) (f : Fit M.K Hi H θ σ g) (hk : θ[k]? = some a) (h0 : g.mu[k]? = some c0) (hd : c0 ≠ .dead) (hc : CellAt M.K Hi θ (upd H a o) a c) (r : WR M.K Hi θ v w) (q : Q w ⟨g.rho, g.mu.set k c⟩) : R v (upd H a o) :=
  h w ⟨g.rho, g.mu.set k c⟩ v _ _ θ q (f.go (f.mf.setC hk h0 hd hc) (Go.setC f.mf hk)) r (Go.setC f.mf hk)

/-! ### the readers' view -/
def Val (g : G) (w : W) (d : D) : Prop := ∀ K Hi H θ σ, Fit K Hi H θ σ g → ∀ v, WR K Hi θ v w → DR K H v d
theorem Val.t {d : D} : Val g (.d d) d := fun _ _ _ _ _ f _ r => DR.mono r f.mf.sub
theorem Val.pl (h : g.mu[k]? = some (.pl ds)) : Val g (.c k) (.lst ds) := fun K Hi H θ σ f v r => by
  obtain ⟨a, h1, rfl⟩ := r
  obtain ⟨_, xs, h2, h3⟩ := f.mf.cell k a _ h1 h
  exact .mkl (.of h2) (h3.mono f.mf.sub)
theorem Val.ml {ws : List W} (h : g.mu[k]? = some (.ml ws)) (hl : ws.length = ds.length) (hv : ∀ (i : Nat) (w : W) (d : D), ws[i]? = some w → ds[i]? = some d → Val g w d) : Val g (.c k) (.lst ds) := fun K Hi H θ σ f v r => by
  obtain ⟨a, h1, rfl⟩ := r
  obtain ⟨_, xs, h2, h3⟩ := f.mf.cell k a _ h1 h
  refine .mkl (.of h2) ⟨h3.1.trans hl, fun i v d e1 e2 => ?_⟩
  have hi : i < ws.length := by rw [hl]; exact (List.getElem?_eq_some_iff.mp e2).1
  exact hv i _ d (List.getElem?_eq_getElem hi) e2 K Hi H θ σ f v (h3.2 i v _ e1 (List.getElem?_eq_getElem hi))
theorem Val.dic {kvs : List (Key × D)} (h : g.mu[k]? = some (.dic kvs)) : Val g (.c k) (.dic kvs) := fun K Hi H θ σ f v r => by
  obtain ⟨a, h1, rfl⟩ := r
  obtain ⟨_, ks, h2, h3⟩ := f.mf.cell k a _ h1 h
  have h4 := h3.2.mono f.mf.sub
  exact .dic h2 h3.1 fun i v d e1 e2 => h4.2 i v d (by rw [List.getElem?_map]; exact e1) (by rw [List.getElem?_map]; exact e2)

/-! ### names, constants -/
theorem wpE_mono {t : TE} {Q' : QE} (h : wpE M t g Q) (m : ∀ w g, Q w g → Q' w g) : wpE M t g Q' := fun Hi H θ σ f x R k => h Hi H θ σ f x R fun w g' v a b c q => k w g' v a b c (m w g' q)
theorem wpT_mono {t : TT} {Q Q' : Bool → G → Prop} (h : wpT M t g Q) (m : ∀ w g, Q w g → Q' w g) : wpT M t g Q' := fun Hi H θ σ f x R k => h Hi H θ σ f x R fun w g' a b c q => k w g' a b c (m w g' q)
theorem wpE_var {i : Nat} (h : g.rho[i]? = some (some w)) (q : Q w g) : wpE M (tVar i) g Q := fun Hi H θ σ f _ R k => by
  obtain ⟨v, h1, h2⟩ := f.slot i w h
  exact ⟨v, h1, k.now f h2 q⟩
theorem wpE_cst (h : ∀ Hi, DR M.K Hi v d) (q : Q (.d d) g) : wpE M (tC v) g Q := fun Hi H θ σ f _ R k => k.now f (w := .d d) (h Hi) q
theorem wpE_int {i : Int} (q : Q (.d (.int i)) g) : wpE M (tC (.int i)) g Q := wpE_cst (fun _ => .int i) q
theorem wpE_bl {i : Bool} (q : Q (.d (.bl i)) g) : wpE M (tC (.bl i)) g Q := wpE_cst (fun _ => .bl i) q
theorem wpE_str {i : Str} (q : Q (.d (.str i)) g) : wpE M (tC (.str i)) g Q := wpE_cst (fun _ => .str i) q
theorem wpE_ty {i : String} (q : Q (.d (.ty i)) g) : wpE M (tC (.ty i)) g Q := wpE_cst (fun _ => .ty i) q
theorem wpE_non (q : Q (.d .non) g) : wpE M (tC .non) g Q := wpE_cst (fun _ => .non) q

/-! ### operators -/
variable {ta tb tc te : TE} {r r' : R2}
theorem wpE_op (h : wpE M ta g fun x g1 => wpE M tb g1 fun y g2 => opD M r x y g2 Q) : wpE M (tOp r ta tb) g Q := fun Hi H θ σ f e R k =>
  h Hi H θ σ f e _ fun x g1 v Hi1 H1 θ1 hx f1 rx o1 => hx Hi1 H1 θ1 σ f1 (e.go o1) _ fun y g2 u Hi2 H2 θ2 hy f2 ry o2 =>
    hy Hi2 H2 θ2 σ f2 ((e.go o1).go o2) v u (rx.go o2) ry R (k.go (o1.trans o2))
theorem wpE_un {r : V → Hp → VK → Prop} (h : wpE M ta g fun x g1 => unD M r x g1 Q) : wpE M (tUn r ta) g Q := fun Hi H θ σ f e R k =>
  h Hi H θ σ f e _ fun x g1 v Hi1 H1 θ1 hx f1 rx o1 => hx Hi1 H1 θ1 σ f1 (e.go o1) v rx R (k.go o1)
theorem wpA_nil {Q : List W → G → Prop} (q : Q [] g) : wpA M tNil g Q := fun Hi H θ σ f e R k => k [] g [] Hi H θ q f .nil (Go.refl f.mf)
theorem wpA_cons {t : TA} {Q : List W → G → Prop} (h : wpE M ta g fun x g1 => wpA M t g1 fun xs g2 => Q (x :: xs) g2) : wpA M (tCons ta t) g Q := fun Hi H θ σ f e R k =>
  h Hi H θ σ f e _ fun x g1 v Hi1 H1 θ1 hx f1 rx o1 => hx Hi1 H1 θ1 σ f1 (e.go o1) _ fun xs g2 vs Hi2 H2 θ2 hy f2 ry o2 =>
    k (x :: xs) g2 (v :: vs) Hi2 H2 θ2 hy f2 (.cons (rx.go o2) ry) (o1.trans o2)
theorem wpE_cb {r : List V → Hp → VK → Prop} {t : TA} (h : wpA M t g fun xs g1 => cbD M r xs g1 Q) : wpE M (tCB r t) g Q := fun Hi H θ σ f e R k =>
  h Hi H θ σ f e _ fun x g1 v Hi1 H1 θ1 hx f1 rx o1 => hx Hi1 H1 θ1 σ f1 (e.go o1) v rx R (k.go o1)
theorem opD_I0 {f : Int → Int → Int} {i j : Int} (q : Q (.d (.int (f i j))) g) : opD M (rI0 fun i j => .int (f i j)) (.d (.int i)) (.d (.int j)) g Q := fun Hi H θ σ ft e v u rv ru R k =>
  ⟨i, j, DR.as_int rv, DR.as_int ru, k.now ft (w := .d (.int (f i j))) (.int _) q⟩
theorem opD_B0 {f : Int → Int → Bool} {i j : Int} (q : Q (.d (.bl (f i j))) g) : opD M (rI0 fun i j => .bl (f i j)) (.d (.int i)) (.d (.int j)) g Q := fun Hi H θ σ ft e v u rv ru R k =>
  ⟨i, j, DR.as_int rv, DR.as_int ru, k.now ft (w := .d (.bl (f i j))) (.bl _) q⟩
theorem opD_I {C : Int → Int → Prop} {f : Int → Int → Int} {i j : Int} (hc : C i j) (q : Q (.d (.int (f i j))) g) : opD M (rI C fun i j => .int (f i j)) (.d (.int i)) (.d (.int j)) g Q := fun Hi H θ σ ft e v u rv ru R k =>
  ⟨i, j, DR.as_int rv, DR.as_int ru, hc, k.now ft (w := .d (.int (f i j))) (.int _) q⟩
theorem unD_neg {f : Int → Int} {i : Int} (q : Q (.d (.int (f i))) g) : unD M (rU fun i => .int (f i)) (.d (.int i)) g Q := fun Hi H θ σ ft e v rv R k =>
  ⟨i, DR.as_int rv, k.now ft (w := .d (.int (f i))) (.int _) q⟩
/-- the first of two ways, the second -/
theorem opD_l (h : opD M r x y g Q) : opD M (fun a b H Q => r a b H Q ∨ r' a b H Q) x y g Q := fun Hi H θ σ ft e v u rv ru R k => .inl (h Hi H θ σ ft e v u rv ru R k)
theorem opD_r (h : opD M r' x y g Q) : opD M (fun a b H Q => r a b H Q ∨ r' a b H Q) x y g Q := fun Hi H θ σ ft e v u rv ru R k => .inr (h Hi H θ σ ft e v u rv ru R k)
/-- items -/
theorem at_get {α : Type} {xs : List α} {i : Int} {j : Nat} {x : α} (hj : ixN xs.length i = some j) (h : xs[j]? = some x) : atI xs i = some x := by
  unfold atI
  rw [hj]
  exact h
theorem opD_ixL {i : Int} {j : Nat} (hj : ixN ds.length i = some j) (hd : ds[j]? = some d) (q : Q (.d d) g) : opD M (rIxL M.K) (.d (.lst ds)) (.d (.int i)) g Q := fun Hi H θ σ ft e v u rv ru R k => by
  obtain ⟨a, xs, rfl, h1, h2⟩ := DR.as_lst rv
  obtain ⟨z, h3, h4⟩ := h2.get hd
  exact ⟨a, xs, i, z, rfl, DR.as_int ru, ft.mf.sub.sqL h1, at_get (by rw [h2.1]; exact hj) h3, k.now ft (w := .d d) h4 q⟩
theorem opD_ixT {i : Int} {j : Nat} (hj : ixN ds.length i = some j) (hd : ds[j]? = some d) (q : Q (.d d) g) : opD M (rIxT M.K) (.d (.tup ds)) (.d (.int i)) g Q := fun Hi H θ σ ft e v u rv ru R k => by
  obtain ⟨a, xs, rfl, h1, h2⟩ := DR.as_tup rv
  obtain ⟨z, h3, h4⟩ := h2.get hd
  exact ⟨a, xs, i, z, rfl, DR.as_int ru, ft.mf.sub.sqT h1, at_get (by rw [h2.1]; exact hj) h3, k.now ft (w := .d d) h4 q⟩
theorem opD_ixC {i : Int} {j : Nat} (h0 : g.mu[k]? = some (.pl ds)) (hj : ixN ds.length i = some j) (hd : ds[j]? = some d) (q : Q (.d d) g) : opD M (rIxL M.K) (.c k) (.d (.int i)) g Q := fun Hi H θ σ ft e v u rv ru R k => by
  obtain ⟨a, h1, rfl⟩ := rv
  obtain ⟨_, xs, h2, h3⟩ := ft.mf.cell _ a _ h1 h0
  obtain ⟨z, h4, h5⟩ := h3.get hd
  exact ⟨a, xs, i, z, rfl, DR.as_int ru, .of h2, at_get (by rw [h3.1]; exact hj) h4, k.now ft (w := .d d) h5 q⟩
theorem opD_ixM {ws : List W} {i : Int} {j : Nat} (h0 : g.mu[k]? = some (.ml ws)) (hj : ixN ws.length i = some j) (hd : ws[j]? = some w) (q : Q w g) : opD M (rIxL M.K) (.c k) (.d (.int i)) g Q := fun Hi H θ σ ft e v u rv ru R k => by
  obtain ⟨a, h1, rfl⟩ := rv
  obtain ⟨_, xs, h2, h3⟩ := ft.mf.cell _ a _ h1 h0
  obtain ⟨z, h4, h5⟩ := h3.get hd
  exact ⟨a, xs, i, z, rfl, DR.as_int ru, .of h2, at_get (by rw [h3.1]; exact hj) h4, k.now ft h5 q⟩
theorem opD_ixl {x y : W} (h : opD M (rIxL M.K) x y g Q) : opD M (rIx M.K) x y g Q := fun Hi H θ σ ft e v u rv ru R k => .inl (h Hi H θ σ ft e v u rv ru R k)
theorem opD_ixt {x y : W} (h : opD M (rIxT M.K) x y g Q) : opD M (rIx M.K) x y g Q := fun Hi H θ σ ft e v u rv ru R k => .inr (.inl (h Hi H θ σ ft e v u rv ru R k))
/-- is None -/
def rIsN (neg : Bool) : R2 := fun x y H Q => y = .non ∧ Q (.bl (if neg then !decide (x = .non) else decide (x = .non))) H
def D.isNon : D → Bool
  | .non => true
  | _ => false
def W.isNon : W → Bool
  | .d .non => true
  | _ => false
theorem WR.isn {K : PySem.W.Frag} (h : WR K Hi θ v w) : decide (v = V.non) = w.isNon := by
  cases w with
  | c k => obtain ⟨a, _, rfl⟩ := h; rfl
  | d d => cases h <;> rfl
theorem opD_isN (q : Q (.d (.bl w.isNon)) g) : opD M (fun x y H Q => y = .non ∧ Q (.bl (decide (x = .non))) H) w (.d .non) g Q := fun Hi H θ σ ft e v u rv ru R k =>
  ⟨DR.as_non ru, by rw [rv.isn]; exact k.now ft (w := .d (.bl w.isNon)) (.bl _) q⟩
theorem opD_notN (q : Q (.d (.bl (!w.isNon))) g) : opD M (fun x y H Q => y = .non ∧ Q (.bl (!decide (x = .non))) H) w (.d .non) g Q := fun Hi H θ σ ft e v u rv ru R k =>
  ⟨DR.as_non ru, by rw [rv.isn]; exact k.now ft (w := .d (.bl (!w.isNon))) (.bl _) q⟩

/-! ### tests -/
variable {t u : TT} {QT : Bool → G → Prop}
theorem wpT_test (h : wpE M te g fun x g1 => ∃ b, x = .d (.bl b) ∧ QT b g1) : wpT M (tTest te) g QT := fun Hi H θ σ f e R k =>
  h Hi H θ σ f e _ fun x g1 v Hi1 H1 θ1 hx f1 rx o1 => by
    obtain ⟨b, rfl, q⟩ := hx
    exact ⟨b, DR.as_bl rx, k b g1 Hi1 H1 θ1 q f1 o1⟩
theorem wpT_B (h : wpE M te g fun x g1 => ∃ b, x = .d (.bl b) ∧ QT b g1) : wpT M (tB te) g QT := fun Hi H θ σ f e R k =>
  h Hi H θ σ f e _ fun x g1 v Hi1 H1 θ1 hx f1 rx o1 => by
    obtain ⟨b, rfl, q⟩ := hx
    exact ⟨b, DR.as_bl rx, k b g1 Hi1 H1 θ1 q f1 o1⟩
theorem PostT.go {R : Bool → Hp → Prop} (h : PostT M Hi H θ σ QT R) (x : Go Hi H θ Hi' H' θ') : PostT M Hi' H' θ' σ QT R := fun a c d e f h1 h2 h4 => h a c d e f h1 h2 (x.trans h4)
theorem wpT_not (h : wpT M t g fun b g1 => QT (!b) g1) : wpT M (tNot t) g QT := fun Hi H θ σ f e R k =>
  h Hi H θ σ f e _ fun b g1 Hi1 H1 θ1 q f1 o1 => k (!b) g1 Hi1 H1 θ1 q f1 o1
theorem wpT_and (h : wpT M t g fun b g1 => (b = true → wpT M u g1 QT) ∧ (b = false → QT false g1)) : wpT M (tAnd t u) g QT := fun Hi H θ σ f e R k =>
  h Hi H θ σ f e _ fun b g1 Hi1 H1 θ1 q f1 o1 => by
    cases b with
    | true => exact q.1 rfl Hi1 H1 θ1 σ f1 (e.go o1) R (k.go o1)
    | false => exact k false g1 Hi1 H1 θ1 (q.2 rfl) f1 o1
theorem wpT_or (h : wpT M t g fun b g1 => (b = true → QT true g1) ∧ (b = false → wpT M u g1 QT)) : wpT M (tOr t u) g QT := fun Hi H θ σ f e R k =>
  h Hi H θ σ f e _ fun b g1 Hi1 H1 θ1 q f1 o1 => by
    cases b with
    | false => exact q.2 rfl Hi1 H1 θ1 σ f1 (e.go o1) R (k.go o1)
    | true => exact k true g1 Hi1 H1 θ1 (q.1 rfl) f1 o1
theorem wpE_andV (h : wpE M ta g fun x g1 => ∃ b, x = .d (.bl b) ∧ (b = true → wpE M tb g1 Q) ∧ (b = false → Q (.d (.bl false)) g1)) : wpE M (tAndV ta tb) g Q := fun Hi H θ σ f e R k =>
  h Hi H θ σ f e _ fun x g1 v Hi1 H1 θ1 hx f1 rx o1 => by
    obtain ⟨b, rfl, q⟩ := hx
    refine ⟨b, DR.as_bl rx, ?_⟩
    cases b with
    | true => exact q.1 rfl Hi1 H1 θ1 σ f1 (e.go o1) R (k.go o1)
    | false => exact (k.go o1).now f1 (w := .d (.bl false)) (.bl _) (q.2 rfl)
theorem wpE_orV (h : wpE M ta g fun x g1 => ∃ b, x = .d (.bl b) ∧ (b = true → Q (.d (.bl true)) g1) ∧ (b = false → wpE M tb g1 Q)) : wpE M (tOrV ta tb) g Q := fun Hi H θ σ f e R k =>
  h Hi H θ σ f e _ fun x g1 v Hi1 H1 θ1 hx f1 rx o1 => by
    obtain ⟨b, rfl, q⟩ := hx
    refine ⟨b, DR.as_bl rx, ?_⟩
    cases b with
    | false => exact q.2 rfl Hi1 H1 θ1 σ f1 (e.go o1) R (k.go o1)
    | true => exact (k.go o1).now f1 (w := .d (.bl true)) (.bl _) (q.1 rfl)
theorem wpE_notV (h : wpE M ta g fun x g1 => ∃ b, x = .d (.bl b) ∧ Q (.d (.bl (!b))) g1) : wpE M (tNotV ta) g Q := fun Hi H θ σ f e R k =>
  h Hi H θ σ f e _ fun x g1 v Hi1 H1 θ1 hx f1 rx o1 => by
    obtain ⟨b, rfl, q⟩ := hx
    exact ⟨b, DR.as_bl rx, (k.go o1).now f1 (w := .d (.bl (!b))) (.bl _) q⟩
theorem wpE_if (h : wpT M t g fun b g1 => (b = true → wpE M ta g1 Q) ∧ (b = false → wpE M tb g1 Q)) : wpE M (tIf t ta tb) g Q := fun Hi H θ σ f e R k =>
  h Hi H θ σ f e _ fun b g1 Hi1 H1 θ1 q f1 o1 => by
    cases b with
    | true => exact q.1 rfl Hi1 H1 θ1 σ f1 (e.go o1) R (k.go o1)
    | false => exact q.2 rfl Hi1 H1 θ1 σ f1 (e.go o1) R (k.go o1)
theorem wpE_chain (h : wpE M ta g fun x g1 => wpE M tb g1 fun y g2 => opD M r x y g2 fun z g3 => ∃ b, z = .d (.bl b) ∧ (b = true → wpE M tc g3 fun z g4 => opD M r' y z g4 Q) ∧ (b = false → Q (.d (.bl false)) g3)) : wpE M (tChain r r' ta tb tc) g Q := fun Hi H θ σ f e R k =>
  h Hi H θ σ f e _ fun x g1 v Hi1 H1 θ1 hx f1 rx o1 => hx Hi1 H1 θ1 σ f1 (e.go o1) _ fun y g2 u Hi2 H2 θ2 hy f2 ry o2 =>
    hy Hi2 H2 θ2 σ f2 ((e.go o1).go o2) v u (rx.go o2) ry _ fun z g3 z' Hi3 H3 θ3 hz f3 rz o3 => by
      obtain ⟨b, rfl, q⟩ := hz
      refine ⟨b, DR.as_bl rz, ?_⟩
      cases b with
      | true =>
        rw [if_pos rfl]
        refine q.1 rfl Hi3 H3 θ3 σ f3 (((e.go o1).go o2).go o3) _ fun z g4 z' Hi4 H4 θ4 hz f4 rz o4 => ?_
        exact hz Hi4 H4 θ4 σ f4 ((((e.go o1).go o2).go o3).go o4) u z' ((ry.go o3).go o4) rz R (k.go (((o1.trans o2).trans o3).trans o4))
      | false =>
        rw [if_neg Bool.false_ne_true]
        exact (k.go ((o1.trans o2).trans o3)).now f3 (w := .d (.bl false)) (.bl _) (q.2 rfl)

/-! ### statements -/
variable {s1 s2 : TS} {n : N} {gt : TG} {gts : TGs}
theorem EOk.nxt {D : Ends} (h : EOk M Hi H θ n D) (m : G → Prop) (X : L2.St → Hp → Prop) (q : ∀ g' σ' Hi' H' θ', m g' → Fit M.K Hi' H' θ' σ' g' → Go Hi H θ Hi' H' θ' → X σ' H') : EOk M Hi H θ { n with nx := m } { D with nx := X } := ⟨q, h.rt, h.bk, h.ct⟩
theorem wpS_next (q : n.nx g) : wpS M tNext g n := fun Hi H θ σ f e D k => k.nx g σ Hi H θ q f (Go.refl f.mf)
theorem wpS_brk (q : n.bk g) : wpS M tBreak g n := fun Hi H θ σ f e D k => k.bk g σ Hi H θ q f (Go.refl f.mf)
theorem wpS_cont (q : n.ct g) : wpS M tCont g n := fun Hi H θ σ f e D k => k.ct g σ Hi H θ q f (Go.refl f.mf)
theorem wpS_seq (h : wpS M s1 g { n with nx := fun g1 => wpS M s2 g1 n }) : wpS M (tSeq s1 s2) g n := fun Hi H θ σ f e D k =>
  h Hi H θ σ f e _ (k.nxt _ _ fun g' σ' Hi' H' θ' q f' o => q Hi' H' θ' σ' f' (e.go o) D (k.go o))
theorem wpS_asg (h : wpE M te g fun x g1 => wpG M gt x g1 n.nx) : wpS M (tAsg te gt) g n := fun Hi H θ σ f e D k =>
  h Hi H θ σ f e _ fun x g1 v Hi1 H1 θ1 hx f1 rx o1 => hx Hi1 H1 θ1 σ f1 (e.go o1) v rx _ fun g2 σ2 Hi2 H2 θ2 q f2 o2 => k.nx g2 σ2 Hi2 H2 θ2 q f2 (o1.trans o2)
theorem wpG_name {i : Nat} {QG : G → Prop} (q : QG ⟨g.rho.set i (some w), g.mu⟩) : wpG M (gName i) w g QG := fun Hi H θ σ f e v r R k => k _ _ Hi H θ q (f.set r) (Go.refl f.mf)
theorem wpG_tup {m : Nat} {QG : G → Prop} (hm : ds.length = m) (h : wpGs M gts (ds.map W.d) g QG) : wpG M (gTup M.K m gts) (.d (.tup ds)) g QG := fun Hi H θ σ f e v r R k => by
  obtain ⟨a, xs, rfl, h1, h2⟩ := DR.as_tup r
  exact ⟨a, xs, rfl, f.mf.sub.sqT h1, h2.1.trans hm, h Hi H θ σ f e xs (WRs.to_drs h2) R k⟩
theorem wpGs_nil {QG : G → Prop} (q : QG g) : wpGs M gNil [] g QG := fun Hi H θ σ f e vs r R k => ⟨r.unnil, k g σ Hi H θ q f (Go.refl f.mf)⟩
theorem wpGs_cons {ws : List W} {QG : G → Prop} (h : wpG M gt w g fun g1 => wpGs M gts ws g1 QG) : wpGs M (gCons gt gts) (w :: ws) g QG := fun Hi H θ σ f e vs r R k => by
  obtain ⟨v, ys, rfl, h1, h2⟩ := r.uncons
  refine ⟨v, ys, rfl, h Hi H θ σ f e v h1 _ fun g1 σ1 Hi1 H1 θ1 q f1 o1 => ?_⟩
  exact q Hi1 H1 θ1 σ1 f1 (e.go o1) ys (h2.go o1) R fun g2 σ2 Hi2 H2 θ2 q2 f2 o2 => k g2 σ2 Hi2 H2 θ2 q2 f2 (o1.trans o2)
theorem wpS_ifs (h : wpT M t g fun b g1 => (b = true → wpS M s1 g1 n) ∧ (b = false → wpS M s2 g1 n)) : wpS M (tIfS t s1 s2) g n := fun Hi H θ σ f e D k =>
  h Hi H θ σ f e _ fun b g1 Hi1 H1 θ1 q f1 o1 => by
    cases b with
    | true => exact q.1 rfl Hi1 H1 θ1 σ f1 (e.go o1) D (k.go o1)
    | false => exact q.2 rfl Hi1 H1 θ1 σ f1 (e.go o1) D (k.go o1)
theorem wpS_ret (h : wpE M te g fun x g1 => n.rt x g1.mu) : wpS M (tRet te) g n := fun Hi H θ σ f e D k =>
  h Hi H θ σ f e _ fun x g1 v Hi1 H1 θ1 hx f1 rx o1 => k.rt x g1.mu v Hi1 H1 θ1 hx f1.mf rx o1
theorem wpS_retN (q : n.rt (.d .non) g.mu) : wpS M tRetN g n := fun Hi H θ σ f e D k => k.rt _ g.mu .non Hi H θ q f.mf DR.non (Go.refl f.mf)
theorem wpS_drop (h : wpE M te g fun _ g1 => n.nx g1) : wpS M (tDrop te) g n := fun Hi H θ σ f e D k =>
  h Hi H θ σ f e _ fun x g1 v Hi1 H1 θ1 hx f1 rx o1 => k.nx g1 σ Hi1 H1 θ1 hx f1 o1
theorem wpS_par {i j : Nat} {ta : TA} (h : wpA M ta g fun ws g1 => ∃ a b, ws = [a, b] ∧ n.nx ⟨(g1.rho.set i (some a)).set j (some b), g1.mu⟩) : wpS M (tPar i j ta) g n := fun Hi H θ σ f e D k =>
  h Hi H θ σ f e _ fun xs g1 vs Hi1 H1 θ1 hx f1 rx o1 => by
    obtain ⟨a, b, rfl, q⟩ := hx
    obtain ⟨v, ys, rfl, r1, r2⟩ := rx.uncons
    obtain ⟨u, zs, rfl, r3, r4⟩ := r2.uncons
    cases r4.unnil
    exact ⟨v, u, rfl, k.nx _ _ Hi1 H1 θ1 q ((f1.set r1).set r3) o1⟩
theorem wpS_aug {i : Nat} {f : Int → Int → Int} {a b : Int} (hx : g.rho[i]? = some (some (.d (.int a)))) (h : wpE M te g fun y g1 => ∃ b, y = .d (.int b) ∧ n.nx ⟨g1.rho.set i (some (.d (.int (f a b)))), g1.mu⟩) : wpS M (tAug i te (ipI f)) g n := fun Hi H θ σ ft e D k => by
  obtain ⟨v, h1, h2⟩ := ft.slot i _ hx
  cases DR.as_int h2
  refine ⟨_, h1, h Hi H θ σ ft e _ fun y g1 v Hi1 H1 θ1 hy f1 ry o1 => ?_⟩
  obtain ⟨b, rfl, q⟩ := hy
  exact ⟨a, b, rfl, DR.as_int ry, k.nx _ _ Hi1 H1 θ1 q (f1.set (w := .d (.int (f a b))) (.int _)) o1⟩
/-- a while, by a word that falls -/
theorem wpS_while (I : Nat → G → Prop) (m0 : Nat) (h0 : I m0 g) (hs : ∀ m g1, I m g1 → wpT M t g1 fun b g2 => (b = true → wpS M s1 g2 { nx := fun g3 => ∃ m', m' < m ∧ I m' g3, rt := n.rt, bk := n.nx, ct := fun g3 => ∃ m', m' < m ∧ I m' g3 }) ∧ (b = false → n.nx g2)) : wpS M (tWhile t s1) g n := fun Hi H θ σ f e D k =>
  ⟨fun m σ' H' => ∃ g' Hi' θ', I m g' ∧ Fit M.K Hi' H' θ' σ' g' ∧ Go Hi H θ Hi' H' θ', ⟨m0, g, Hi, θ, h0, f, Go.refl f.mf⟩, fun m σ' H' ⟨g', Hi', θ', hi, f', o'⟩ =>
    hs m g' hi Hi' H' θ' σ' f' (e.go o') _ fun b g2 Hi2 H2 θ2 q f2 o2 => by
      cases b with
      | true =>
        rw [if_pos rfl]
        refine ⟨fun σ3 H3 => ∃ m', m' < m ∧ ∃ g' Hi' θ', I m' g' ∧ Fit M.K Hi' H3 θ' σ3 g' ∧ Go Hi H θ Hi' H3 θ', fun σ3 H3 z => z, q.1 rfl Hi2 H2 θ2 σ' f2 (e.go (o'.trans o2)) _ ⟨?_, ?_, ?_, ?_⟩⟩
        · rintro g3 σ3 Hi3 H3 θ3 ⟨m', l, i3⟩ f3 o3
          exact ⟨m', l, g3, Hi3, θ3, i3, f3, (o'.trans o2).trans o3⟩
        · exact fun w μ v a b c h1 h2 h3 h4 => k.rt w μ v a b c h1 h2 h3 ((o'.trans o2).trans h4)
        · exact fun g3 σ3 a b c h1 h2 h3 => k.nx g3 σ3 a b c h1 h2 ((o'.trans o2).trans h3)
        · rintro g3 σ3 Hi3 H3 θ3 ⟨m', l, i3⟩ f3 o3
          exact ⟨m', l, g3, Hi3, θ3, i3, f3, (o'.trans o2).trans o3⟩
      | false =>
        rw [if_neg Bool.false_ne_true]
        exact k.nx g2 σ' Hi2 H2 θ2 (q.2 rfl) f2 (o'.trans o2)⟩
end
end DL

namespace DL
open PySem L2

/-! ### rules of the operators over lists that are read -/
section
variable {X : Cx}
def rCatL (K : PySem.W.Frag) : R2 := fun x y H Q => ∃ (l b : Addr) (xs zs : List V), x = .ref l ∧ y = .ref b ∧ SqL K H l xs ∧ SqL K H b zs ∧ xs.length + zs.length ≤ sizeLine ∧ ∀ p, H p = none → Q (.ref p) (upd H p (.lst (xs ++ zs)))
theorem op_catL : OpR X (binaryOp .Add) (rCatL X.K) := by
  intro pins s σ H x y v u Q I rx ry h
  obtain ⟨l, b, xs, zs, rfl, rfl, hl, hb, hz, q⟩ := h
  cases rx
  cases ry
  obtain ⟨us, r1, ⟨⟨c1, d1, t1, sl1⟩, n1, e1, z1, z2, z3⟩, _⟩ := I.list hl
  obtain ⟨ws, r2, ⟨⟨c2, d2, t2, sl2⟩, n2, e2, y1, y2, y3⟩, _⟩ := I.list hb
  dsimp only at z1 z2 z3 y1 y2 y3
  subst z1 z2 z3 y1 y2 y3
  have k1 := r1.length
  have k2 := r2.length
  refine PySem.concat_meets ⟨_, e1, rfl⟩ ⟨_, e2, rfl⟩ PySem.noFill_list_add PySem.seq_list_add PySem.F.slot_list_add PySem.F.entry_list_add (PySem.F.args_list_add_2 _ _) (PyProof.Rows.list_addW l b us.toArray ws.toArray n1 n2 none none sl1 sl2 (by simp only [List.size_toArray]; omega)) ⟨e1, e2, ?_⟩
  rw [show us.toArray ++ ws.toArray = (us ++ ws).toArray by simp]
  exact ⟨.ref _, _, I.lnew (t' := s.toks) (r1.append r2) (by rw [List.length_append]; omega), rfl, q _ I.fresh⟩
/-- + of ints, of lists, of tuples, of texts -/
def rStrA : R2 := fun x y H Q => ∃ i j, x = .str i ∧ y = .str j ∧ i.length + j.length ≤ sizeLine ∧ Q (.str (i ++ j)) H
def rAddA (K : PySem.W.Frag) : R2 := fun x y H Q => rI0 (fun i j => .int (i + j)) x y H Q ∨ rCatL K x y H Q ∨ rCatA K x y H Q ∨ rStrA x y H Q
theorem op_addA : OpR X (binaryOp .Add) (rAddA X.K) := op_add.or (op_catL.or (op_catA.or op_add_str))
def CPw (i j : Int) : Prop := 0 ≤ j ∧ j ≤ 100 ∧ i.natAbs < 2 ^ 1000
theorem op_powW : OpR X (binaryOp .Pow) (rI CPw fun i j => .int (i ^ j.toNat)) := opI fun i j t u s Q E hc q => by
  obtain ⟨h0, h3, hi⟩ := hc
  refine PyProof.Rows.pow_int h0 ?_ q
  have hb : Builtin.Int.intBits i ≤ 1001 := by
    have h1 : i.natAbs.log2 < 1000 := PySem.Flt.log2_lt_of (by decide) hi
    unfold Builtin.Int.intBits
    split <;> omega
  have h2 : (Builtin.Int.intBits i : Int) * j ≤ 1001 * j := Int.mul_le_mul_of_nonneg_right (by omega) h0
  omega
/-- a list times an int -/
def rRepL (K : PySem.W.Frag) : R2 := fun x y H Q => ∃ l k xs, x = .ref l ∧ y = .int k ∧ H l = some (.lst xs) ∧ -(2 ^ 63) ≤ k ∧ k < 2 ^ 63 ∧ xs.length * k.toNat ≤ sizeLine ∧ ∀ p, H p = none → Q (.ref p) (upd H p (.lst (List.replicate k.toNat xs).flatten))
def rMulA : R2 := fun x y H Q => rI CMulW (fun i j => .int (i * j)) x y H Q ∨ rRep x y H Q
theorem op_mulA : OpR X (binaryOp .Mult) rMulA := op_mulW.or op_rep
end

section
variable {M : Mx} {Hi H Hi' H' : Hp} {θ θ' : List Addr} {σ : L2.St} {g g1 : G} {Q : QE} {R : VK} {w x y : W} {v : V} {d : D} {p : Addr} {o : HO} {c : Cell} {ds es : List D} {k : Nat} {r r' : R2}
theorem opD_or_l {x y : W} (h : opD M r x y g Q) : opD M (fun a b H Q => r a b H Q ∨ r' a b H Q) x y g Q := fun Hi H θ σ ft e v u rv ru R k => .inl (h Hi H θ σ ft e v u rv ru R k)
theorem opD_addI {i j : Int} (q : Q (.d (.int (i + j))) g) : opD M (rAddA M.K) (.d (.int i)) (.d (.int j)) g Q := fun Hi H θ σ ft e v u rv ru R k => .inl (opD_I0 (f := fun i j => i + j) q Hi H θ σ ft e v u rv ru R k)
/-- list + list: a new list, a tree | a cell -/
theorem opD_addL (hx : x = .d (.lst ds)) (hy : y = .d (.lst es)) (hz : ds.length + es.length ≤ 16777216) (q : Q (.d (.lst (ds ++ es))) g) : opD M (rAddA M.K) x y g Q := fun Hi H θ σ ft e v u rv ru R k => by
  subst hx hy
  obtain ⟨a, xs, rfl, h1, h2⟩ := DR.as_lst rv
  obtain ⟨b, ys, rfl, h3, h4⟩ := DR.as_lst ru
  have ft := ft
  exact .inr (.inl ⟨a, b, xs, ys, rfl, rfl, ft.mf.sub.sqL h1, ft.mf.sub.sqL h3, by rw [h2.1, h4.1, sizeLine_eq]; exact hz, fun p hp => k.newL ft hp (h2.append h4) q⟩)
theorem opD_mulI {i j : Int} (hc : CMulW i j) (q : Q (.d (.int (i * j))) g) : opD M rMulA (.d (.int i)) (.d (.int j)) g Q := fun Hi H θ σ ft e v u rv ru R k => .inl (opD_I (f := fun i j => i * j) hc q Hi H θ σ ft e v u rv ru R k)
end
end DL

namespace DL
open PySem L2

/-! ### flat values -/
def D.toV : D → V
  | .non => .non
  | .bl b => .bl b
  | .int i => .int i
  | .str x => .str x
  | .ty n => .ty n
  | .adr a => .ref a
  | _ => .non
def D.flat : D → Bool
  | .non => true
  | .bl _ => true
  | .int _ => true
  | .str _ => true
  | _ => false
theorem DR.flat {K : PySem.W.Frag} {H : Hp} {v : V} {d : D} (h : DR K H v d) (hf : d.flat = true) : v = d.toV ∧ flatV v = true := by
  cases h <;> first | exact ⟨rfl, rfl⟩ | exact absurd hf (by simp [D.flat])
theorem DRs.flats {K : PySem.W.Frag} {H : Hp} {vs : List V} {ds : List D} (h : DRs K H vs ds) (hf : ds.all D.flat = true) : vs = ds.map D.toV ∧ vs.all flatV = true := by
  have e : vs = ds.map D.toV := by
    refine List.ext_getElem? fun i => ?_
    rw [List.getElem?_map]
    cases e : ds[i]? with
    | none =>
      rw [List.getElem?_eq_none]
      · rfl
      · have := List.getElem?_eq_none_iff.mp e
        rw [h.1]
        exact this
    | some d =>
      obtain ⟨v, h1, h2⟩ := h.get e
      rw [h1, (h2.flat (List.all_eq_true.mp hf d (List.mem_of_getElem? e))).1]
      rfl
  refine ⟨e, List.all_eq_true.mpr fun v hv => ?_⟩
  obtain ⟨i, hi⟩ := List.getElem?_of_mem hv
  cases e2 : ds[i]? with
  | none =>
    have := List.getElem?_eq_none_iff.mp e2
    have q := (List.getElem?_eq_some_iff.mp hi).1
    rw [h.1] at q
    omega
  | some d => exact ((h.2 i v d hi e2).flat (List.all_eq_true.mp hf d (List.mem_of_getElem? e2))).2
theorem dr_flat {K : PySem.W.Frag} {H : Hp} {d : D} (hf : d.flat = true) : DR K H d.toV d := by
  cases d with
  | non => exact .non
  | bl b => exact .bl b
  | int i => exact .int i
  | str x => exact .str x
  | _ => exact absurd hf (by simp [D.flat])
theorem drs_flat {K : PySem.W.Frag} {H : Hp} {ds : List D} (hf : ds.all D.flat = true) : DRs K H (ds.map D.toV) ds := by
  refine ⟨by simp, fun i v d a b => ?_⟩
  rw [List.getElem?_map, b] at a
  cases a
  exact dr_flat (List.all_eq_true.mp hf d (List.mem_of_getElem? b))
def Xc.flat (x : Xc) : Bool := match x.fs with
  | none => true
  | some fs => (fs.map (·.2)).all D.flat
/-- a list of arguments, read only -/
def ValAll (g : G) (ws : List W) (ds : List D) : Prop := ws.length = ds.length ∧ ∀ (i : Nat) (w : W) (d : D), ws[i]? = some w → ds[i]? = some d → Val g w d

/-! ### what a def promises, over data -/
/-- from the arguments and the cells they reach: what is handed back, with the cells behind; what is raised -/
abbrev FS := List W → List Cell → (W → List Cell → Prop) → (Xc → List Cell → Prop) → Prop
def spOf (K : PySem.W.Frag) (F : FS) : Sp := fun vs H Q E => ∃ (Hi : Hp) (θ : List Addr) (ws : List W) (μ : List Cell) (Qd : W → List Cell → Prop) (Xd : Xc → List Cell → Prop), MF K Hi H θ μ ∧ WRs K Hi θ vs ws ∧ F ws μ Qd Xd ∧
  (∀ w μ' v Hi' H' θ', Qd w μ' → MF K Hi' H' θ' μ' → WR K Hi' θ' v w → Go Hi H θ Hi' H' θ' → Q v H') ∧
  (∀ x μ' d Hi' H' θ', Xd x μ' → MF K Hi' H' θ' μ' → XR K Hi' H' d x → Go Hi H θ Hi' H' θ' → E x.cls d H')

/-! ### the cells that a call takes with it -/
def ren (ι : List Nat) (n j : Nat) : Nat := if j < ι.length then ι.getD j 0 else n + (j - ι.length)
def W.ren (f : Nat → Nat) : W → W
  | .d z => .d z
  | .c k => .c (f k)
def Cell.ren (f : Nat → Nat) : Cell → Cell
  | .ml ws => .ml (ws.map (W.ren f))
  | c => c
def wput : List Cell → List Nat → List Cell → List Cell
  | μ, i :: ι, c :: cs => wput (μ.set i c) ι cs
  | μ, _, _ => μ
def merge (μ : List Cell) (ι : List Nat) (μ1 : List Cell) : List Cell :=
  wput μ ι ((μ1.take ι.length).map (Cell.ren (ren ι μ.length))) ++ (μ1.drop ι.length).map (Cell.ren (ren ι μ.length))
def W.inv (ι : List Nat) : W → W := W.ren fun k => ι.idxOf k
def Cell.inv (ι : List Nat) : Cell → Cell := Cell.ren fun k => ι.idxOf k
def W.inIo (ι : List Nat) : W → Bool
  | .d _ => true
  | .c k => ι.contains k
def Cell.inIo (ι : List Nat) : Cell → Bool
  | .ml ws => ws.all (W.inIo ι)
  | _ => true
def subMu (ι : List Nat) (μ : List Cell) : List Cell := ι.map fun i => (μ.getD i .dead).inv ι
def okIo (ι : List Nat) (ws : List W) (μ : List Cell) : Bool := decide ι.Nodup && ι.all (fun i => decide (i < μ.length) && (μ.getD i .dead).inIo ι) && ws.all (W.inIo ι)

theorem wput_length : ∀ (ι : List Nat) (μ cs : List Cell), (wput μ ι cs).length = μ.length
  | [], μ, cs => by cases cs <;> rfl
  | i :: ι, μ, [] => rfl
  | i :: ι, μ, c :: cs => by
    show (wput (μ.set i c) ι cs).length = _
    rw [wput_length ι, List.length_set]
theorem wput_out : ∀ (ι : List Nat) (μ cs : List Cell) (k : Nat), k ∉ ι → (wput μ ι cs)[k]? = μ[k]?
  | [], μ, cs, k, _ => by cases cs <;> rfl
  | i :: ι, μ, [], k, _ => rfl
  | i :: ι, μ, c :: cs, k, h => by
    show (wput (μ.set i c) ι cs)[k]? = _
    rw [wput_out ι _ _ _ fun q => h (List.mem_cons_of_mem _ q), List.getElem?_set_ne fun q => h (by rw [q]; exact List.mem_cons_self)]
theorem wput_in : ∀ (ι : List Nat) (μ cs : List Cell), ι.Nodup → ι.length = cs.length → (∀ i ∈ ι, i < μ.length) → ∀ (j i : Nat), ι[j]? = some i → (wput μ ι cs)[i]? = cs[j]?
  | [], μ, cs, _, _, _, j, i, h => by simp at h
  | i0 :: ι, μ, [], _, hl, _, j, i, h => by simp at hl
  | i0 :: ι, μ, c :: cs, hn, hl, hm, j, i, h => by
    have hn2 := List.nodup_cons.mp hn
    show (wput (μ.set i0 c) ι cs)[i]? = _
    cases j with
    | zero =>
      simp at h
      subst h
      rw [wput_out ι _ _ _ hn2.1, List.getElem?_set_self (hm _ List.mem_cons_self)]
      rfl
    | succ j =>
      have h2 : ι[j]? = some i := by simpa using h
      rw [wput_in ι _ cs hn2.2 (by simpa using hl) (fun q hq => by rw [List.length_set]; exact hm q (List.mem_cons_of_mem _ hq)) j i h2]
      simp
section
variable {K : PySem.W.Frag} {Hi H Hi' H' : Hp} {θ θ' : List Addr} {μ μ1 : List Cell} {ι : List Nat} {v : V} {w : W}
theorem idx_get {i : Nat} (h : i ∈ ι) : ι.idxOf i < ι.length ∧ ι[ι.idxOf i]? = some i := by
  have h1 := List.idxOf_lt_length_iff.mpr h
  exact ⟨h1, by rw [List.getElem?_eq_getElem h1, List.getElem_idxOf h1]⟩
theorem sub_get (hl : ∀ i ∈ ι, i < θ.length) {i : Nat} (h : i ∈ ι) : (ι.map fun i => θ.getD i 0)[ι.idxOf i]? = θ[i]? := by
  rw [List.getElem?_map, (idx_get h).2]
  show some (θ.getD i 0) = θ[i]?
  rw [List.getD_eq_getElem?_getD, List.getElem?_eq_getElem (hl i h)]
  rfl
theorem WR.down (hl : ∀ i ∈ ι, i < θ.length) (hw : w.inIo ι = true) (h : WR K Hi θ v w) : WR K Hi (ι.map fun i => θ.getD i 0) v (w.inv ι) := by
  cases w with
  | d d => exact (show DR K Hi v d from h)
  | c k =>
    obtain ⟨a, h1, h2⟩ := h
    have hk : k ∈ ι := by simpa [W.inIo] using hw
    exact (show ∃ b, (ι.map fun i => θ.getD i 0)[ι.idxOf k]? = some b ∧ v = .ref b from ⟨a, by rw [sub_get hl hk]; exact h1, h2⟩)
theorem WRs.down {vs : List V} {ws : List W} (hl : ∀ i ∈ ι, i < θ.length) (hw : ws.all (W.inIo ι) = true) (h : WRs K Hi θ vs ws) : WRs K Hi (ι.map fun i => θ.getD i 0) vs (ws.map (W.inv ι)) := by
  refine ⟨by simpa using h.1, fun i v w h1 h2 => ?_⟩
  rw [List.getElem?_map] at h2
  cases e : ws[i]? with
  | none => rw [e] at h2; cases h2
  | some u =>
    rw [e] at h2
    cases h2
    exact (h.2 i v u h1 e).down hl (List.all_eq_true.mp hw u (List.mem_of_getElem? e))
theorem CellAt.down {a : Addr} {c : Cell} (hl : ∀ i ∈ ι, i < θ.length) (hw : c.inIo ι = true) (h : CellAt K Hi θ H a c) : CellAt K Hi (ι.map fun i => θ.getD i 0) H a (c.inv ι) := by
  cases c with
  | ml ws =>
    obtain ⟨h1, xs, h2, h3⟩ := h
    exact (show Hi a = none ∧ ∃ xs, H a = some (.lst xs) ∧ WRs K Hi _ xs (ws.map (W.inv ι)) from ⟨h1, xs, h2, h3.down hl hw⟩)
  | pl _ => exact h
  | dic _ => exact h
  | dead => exact h
theorem WR.up {ν : List Addr} (hl : ∀ i ∈ ι, i < θ.length) (h : WR K Hi ((ι.map fun i => θ.getD i 0) ++ ν) v w) : WR K Hi (θ ++ ν) v (w.ren (ren ι θ.length)) := by
  cases w with
  | d d => exact (show DR K Hi v d from h)
  | c j =>
    obtain ⟨a, h1, h2⟩ := h
    refine (show ∃ b, (θ ++ ν)[ren ι θ.length j]? = some b ∧ v = .ref b from ⟨a, ?_, h2⟩)
    by_cases hj : j < ι.length
    · rw [List.getElem?_append_left (by simpa using hj), List.getElem?_map, List.getElem?_eq_getElem hj] at h1
      show (θ ++ ν)[ren ι θ.length j]? = _
      have hm := hl _ (List.getElem_mem hj)
      rw [show ren ι θ.length j = ι[j] by unfold ren; rw [if_pos hj, List.getD_eq_getElem?_getD, List.getElem?_eq_getElem hj]; rfl, List.getElem?_append_left hm, ← h1]
      show _ = some (θ.getD ι[j] 0)
      rw [List.getD_eq_getElem?_getD, List.getElem?_eq_getElem hm]
      rfl
    · rw [List.getElem?_append_right (by simpa using hj)] at h1
      show (θ ++ ν)[ren ι θ.length j]? = _
      rw [show ren ι θ.length j = θ.length + (j - ι.length) by unfold ren; rw [if_neg hj], List.getElem?_append_right (by omega), ← h1]
      simp
theorem CellAt.up {ν : List Addr} {a : Addr} {c : Cell} (hl : ∀ i ∈ ι, i < θ.length) (h : CellAt K Hi ((ι.map fun i => θ.getD i 0) ++ ν) H a c) : CellAt K Hi (θ ++ ν) H a (c.ren (ren ι θ.length)) := by
  cases c with
  | ml ws =>
    obtain ⟨h1, xs, h2, h3⟩ := h
    refine ⟨h1, xs, h2, by simpa using h3.1, fun i v w e1 e2 => ?_⟩
    rw [List.getElem?_map] at e2
    cases e : ws[i]? with
    | none => rw [e] at e2; cases e2
    | some u =>
      rw [e] at e2
      cases e2
      exact (h3.2 i v u e1 e).up hl
  | pl _ => exact h
  | dic _ => exact h
  | dead => exact h
theorem MF.down (m : MF K Hi H θ μ) {ws : List W} (ok : okIo ι ws μ = true) : MF K Hi H (ι.map fun i => θ.getD i 0) (subMu ι μ) ∧ (∀ i ∈ ι, i < θ.length) ∧ ι.Nodup ∧ ws.all (W.inIo ι) = true := by
  unfold okIo at ok
  simp only [Bool.and_eq_true, decide_eq_true_eq, List.all_eq_true] at ok
  obtain ⟨⟨hn, hi⟩, hw⟩ := ok
  have hl : ∀ i ∈ ι, i < θ.length := fun i h => by rw [m.len]; exact (hi i h).1
  have get : ∀ i ∈ ι, θ[i]? = some (θ.getD i 0) := fun i h => by
    rw [List.getD_eq_getElem?_getD, List.getElem?_eq_getElem (hl i h)]
    rfl
  refine ⟨⟨m.sub, by simp [subMu], ?_, fun a ha => ?_, fun j a c h1 h2 => ?_⟩, hl, hn, by simpa using hw⟩
  · refine List.Pairwise.map _ (fun i j h => h) ?_
    rw [List.pairwise_iff_getElem]
    intro i j h1 h2 hij e
    have q1 := get _ (List.getElem_mem h1)
    have q2 := get _ (List.getElem_mem h2)
    rw [e] at q1
    obtain ⟨b1, e1⟩ := List.getElem?_eq_some_iff.mp q1
    obtain ⟨b2, e2⟩ := List.getElem?_eq_some_iff.mp q2
    have q3 := (List.getElem_inj m.nd).mp (e1.trans e2.symm)
    have q4 := (List.getElem_inj hn).mp q3
    omega
  · obtain ⟨i, h1, rfl⟩ := List.mem_map.mp ha
    exact m.there _ (List.mem_of_getElem? (get i h1))
  · unfold subMu at h2
    rw [List.getElem?_map] at h1 h2
    cases e : ι[j]? with
    | none => rw [e] at h1; cases h1
    | some i =>
      rw [e] at h1 h2
      cases h1
      cases h2
      have hm := List.mem_of_getElem? e
      have hc : μ[i]? = some (μ.getD i .dead) := by
        rw [List.getD_eq_getElem?_getD, List.getElem?_eq_getElem (hi i hm).1]
        rfl
      exact (m.cell i _ _ (get i hm) hc).down hl (hi i hm).2
/-- behind a call: the caller's cells -/
theorem MF.up {θ0' : List Addr} (m : MF K Hi H θ μ) (hl : ∀ i ∈ ι, i < θ.length) (hn : ι.Nodup) (m1 : MF K Hi' H' θ0' μ1) (x : Go Hi H (ι.map fun i => θ.getD i 0) Hi' H' θ0') :
    ∃ ν, θ0' = (ι.map fun i => θ.getD i 0) ++ ν ∧ MF K Hi' H' (θ ++ ν) (merge μ ι μ1) ∧ Go Hi H θ Hi' H' (θ ++ ν) := by
  obtain ⟨ν, eν, fν⟩ := x.ext
  have get : ∀ i ∈ ι, θ[i]? = some (θ.getD i 0) := fun i h => by
    rw [List.getD_eq_getElem?_getD, List.getElem?_eq_getElem (hl i h)]
    rfl
  have sub0 : ∀ a, a ∈ (ι.map fun i => θ.getD i 0) → a ∈ θ := fun a ha => by
    obtain ⟨i, h1, rfl⟩ := List.mem_map.mp ha
    exact List.mem_of_getElem? (get i h1)
  have hlen : μ1.length = ι.length + ν.length := by
    have := m1.len
    rw [eν] at this
    simp at this
    omega
  have thr : ∀ a ∈ θ ++ ν, H' a ≠ none := fun a ha => by
    rcases List.mem_append.mp ha with h | h
    · by_cases q : a ∈ (ι.map fun i => θ.getD i 0)
      · exact m1.there a (by rw [eν]; exact List.mem_append_left _ q)
      · cases e : H a with
        | none => exact absurd e (m.there a h)
        | some o =>
          rw [x.keep a o e q]
          intro z
          cases z
    · exact m1.there a (by rw [eν]; exact List.mem_append_right _ h)
  refine ⟨ν, eν, ⟨m1.sub, ?_, ?_, thr, fun k a c h1 h2 => ?_⟩, ⟨⟨ν, rfl, fν⟩, x.hi, fun a o h => ?_, fun a o h hm => x.keep a o h fun q => hm (sub0 a q), thr⟩⟩
  · unfold merge
    rw [List.length_append, List.length_append, wput_length, List.length_map, List.length_drop, m.len]
    omega
  · rw [List.nodup_append]
    refine ⟨m.nd, ?_, fun a ha b hb q => ?_⟩
    · have := m1.nd
      rw [eν, List.nodup_append] at this
      exact this.2.1
    · subst q
      exact m.there a ha (fν a hb)
  · unfold merge at h2
    by_cases hk : k < θ.length
    · rw [List.getElem?_append_left hk] at h1
      rw [List.getElem?_append_left (by rw [wput_length, ← m.len]; exact hk)] at h2
      by_cases hm : k ∈ ι
      · obtain ⟨i1, i2⟩ := idx_get hm
        rw [wput_in ι μ _ hn (by rw [List.length_map, List.length_take]; omega) (fun i h => by rw [← m.len]; exact hl i h) _ _ i2, List.getElem?_map, List.getElem?_take_of_lt i1] at h2
        cases e : μ1[ι.idxOf k]? with
        | none => rw [e] at h2; cases h2
        | some c0 =>
          rw [e] at h2
          cases h2
          have q : θ0'[ι.idxOf k]? = some a := by
            rw [eν, List.getElem?_append_left (by simpa using i1), sub_get hl hm]
            exact h1
          have z := m1.cell _ _ _ q e
          rw [eν] at z
          rw [← m.len]
          exact z.up hl
      · rw [wput_out ι _ _ _ hm] at h2
        have hna : a ∉ (ι.map fun i => θ.getD i 0) := fun q => by
          obtain ⟨i, h3, h4⟩ := List.mem_map.mp q
          have q1 := get i h3
          rw [h4] at q1
          obtain ⟨b1, e1⟩ := List.getElem?_eq_some_iff.mp q1
          obtain ⟨b2, e2⟩ := List.getElem?_eq_some_iff.mp h1
          have := (List.getElem_inj m.nd).mp (e1.trans e2.symm)
          exact hm (by rw [← this]; exact h3)
        have hex : ∃ o, H a = some o := by
          cases e : H a with
          | none => exact absurd e (m.there a (List.mem_of_getElem? h1))
          | some o => exact ⟨o, rfl⟩
        obtain ⟨o, ho⟩ := hex
        refine (m.cell k a c h1 h2).mono x.hi ?_ ⟨ν, rfl⟩ ((x.keep a o ho hna).trans ho.symm)
        by_cases hd : c = .dead
        · exact .inl hd
        · refine .inr ?_
          cases e : Hi' a with
          | none => rfl
          | some u =>
            rcases x.new a u e with z | z | z
            · rw [(m.cell k a c h1 h2).no hd] at z
              cases z
            · rw [ho] at z
              cases z
            · exact absurd z hna
    · rw [List.getElem?_append_right (by omega)] at h1
      rw [List.getElem?_append_right (by rw [wput_length, ← m.len]; omega), wput_length, ← m.len, List.getElem?_map, List.getElem?_drop] at h2
      cases e : μ1[ι.length + (k - θ.length)]? with
      | none => rw [e] at h2; cases h2
      | some c0 =>
        rw [e] at h2
        cases h2
        have q : θ0'[ι.length + (k - θ.length)]? = some a := by
          rw [eν, List.getElem?_append_right (by simp)]
          simp
          exact h1
        have z := m1.cell _ _ _ q e
        rw [eν] at z
        exact z.up hl
  · rcases x.new a o h with z | z | z
    · exact .inl z
    · exact .inr (.inl z)
    · exact .inr (.inr (sub0 a z))
end

/-! ### calls -/
section
variable {M : Mx} {g g1 : G} {Q : QE} {F : FS}
/-- what a call asks: ι, the cells that go with it; or a call that only reads, and hands back something flat -/
def callD (M : Mx) (F : FS) (ws : List W) (g : G) (Q : QE) : Prop := (∃ ι : List Nat, okIo ι ws g.mu = true ∧
  F (ws.map (W.inv ι)) (subMu ι g.mu) (fun w μ1 => Q (w.ren (ren ι g.mu.length)) ⟨g.rho, merge g.mu ι μ1⟩) (fun x μ1 => M.qx x ⟨g.rho, merge g.mu ι μ1⟩)) ∨
  ∃ ds : List D, ValAll g ws ds ∧ F (ds.map W.d) [] (fun w _ => ∃ d, w = .d d ∧ d.flat = true ∧ Q (.d d) g) (fun x _ => x.flat = true ∧ M.qx x g)
theorem call_run {Hi H : Hp} {θ : List Addr} {σ : L2.St} {ws : List W} {vs : List V} {R : VK} {E : XK} (f : Fit M.K Hi H θ σ g) (e : XOk M Hi H θ) (r : WRs M.K Hi θ vs ws) (k : PostE M Hi H θ σ Q R) (hE : ∀ cls d H', M.W cls d σ H' → E cls d H') (h : callD M F ws g Q) : spOf M.K F vs H R E := by
  rcases h with h | ⟨ds, hv, h⟩
  rotate_left
  · have key : ∀ {Hi' H' θ'}, Go H H [] Hi' H' θ' → MF M.K Hi H' θ g.mu ∧ Go Hi H θ Hi H' θ := fun {Hi' H' θ'} o => by
      have kp : ∀ a u, H a = some u → H' a = some u := fun a u q => o.keep a u q (by simp)
      have th : ∀ a ∈ θ, H' a ≠ none := fun a ha q => by
        cases e : H a with
        | none => exact f.mf.there a ha e
        | some u => rw [kp a u e] at q; cases q
      refine ⟨⟨fun a u q => kp a u (f.mf.sub a u q), f.mf.len, f.mf.nd, th, fun k a c h1 h2 => ?_⟩, ⟨⟨[], by simp, fun _ q => by simp at q⟩, Sub.refl _, fun _ _ q => .inl q, fun a u q _ => kp a u q, th⟩⟩
      have ha := f.mf.there a (List.mem_of_getElem? h1)
      have hex : ∃ u, H a = some u := by
        cases e : H a with
        | none => exact absurd e ha
        | some u => exact ⟨u, rfl⟩
      obtain ⟨u, hu⟩ := hex
      refine (f.mf.cell k a c h1 h2).mono (Sub.refl _) ?_ ⟨[], by simp⟩ ((kp a u hu).trans hu.symm)
      by_cases q : c = .dead
      · exact .inl q
      · exact .inr ((f.mf.cell k a c h1 h2).no q)
    refine ⟨H, [], _, [], _, _, ⟨Sub.refl _, rfl, .nil, fun a q => by simp at q, fun k a c q => by simp at q⟩, ⟨?_, fun i v w a b => ?_⟩, h, ?_, ?_⟩
    · rw [r.1, hv.1]; simp
    · rw [List.getElem?_map] at b
      cases e : ds[i]? with
      | none => rw [e] at b; cases b
      | some d =>
        rw [e] at b
        cases b
        have hi : i < ws.length := by rw [← r.1]; exact (List.getElem?_eq_some_iff.mp a).1
        exact hv.2 i _ d (List.getElem?_eq_getElem hi) e _ _ _ _ _ f v (r.2 i v _ a (List.getElem?_eq_getElem hi))
    · rintro w μ' v Hi' H' θ' ⟨d, rfl, hf, q⟩ m1 r1 o1
      obtain ⟨m2, o2⟩ := key o1
      obtain ⟨rfl, _⟩ := DR.flat r1 hf
      exact k _ _ _ Hi H' θ q (f.go m2 o2) (show DR M.K Hi d.toV d from dr_flat hf) o2
    · rintro x μ' d Hi' H' θ' ⟨hf, q⟩ m1 r1 o1
      obtain ⟨m2, o2⟩ := key o1
      refine hE _ _ _ (e x _ σ d Hi H' θ q (f.go m2 o2) ?_ o2)
      unfold XR at r1 ⊢
      unfold Xc.flat at hf
      cases hx : x.fs with
      | none => rw [hx] at r1; exact r1
      | some fs =>
        rw [hx] at r1 hf
        obtain ⟨dd, ks, a1, a2, a3, a4⟩ := r1
        refine ⟨dd, ks, a1, a2, a3, ?_⟩
        rw [(a4.flats hf).1]
        exact drs_flat hf
  obtain ⟨ι, ok, h⟩ := h
  obtain ⟨m0, hl, hn, hw⟩ := f.mf.down ok
  have r0 := r.down hl hw
  have hθ : θ.length = g.mu.length := f.mf.len
  refine ⟨Hi, _, _, _, _, _, m0, r0, h, fun w μ1 v Hi' H' θ' q m1 r1 o1 => ?_, fun x μ1 d Hi' H' θ' q m1 r1 o1 => ?_⟩
  · obtain ⟨ν, eν, m2, o2⟩ := f.mf.up hl hn m1 o1
    subst eν
    have r2 := r1.up hl
    rw [hθ] at r2
    exact k _ _ v Hi' H' (θ ++ ν) q (f.go m2 o2) r2 o2
  · obtain ⟨ν, eν, m2, o2⟩ := f.mf.up hl hn m1 o1
    subst eν
    exact hE _ _ _ (e x _ σ d Hi' H' (θ ++ ν) q (f.go m2 o2) r1 o2)
/-- a def that raises nothing | one that may raise -/
theorem wpE_call {ta : TA} (h : wpA M ta g fun ws g1 => callD { M with qx := fun _ _ => False } F ws g1 Q) : wpE M (tCall (spOf M.K F) [] E0 ta) g Q := fun Hi H θ σ f e R k =>
  h Hi H θ σ f e _ fun ws g1 vs Hi1 H1 θ1 hx f1 rx o1 => by
    show spOf M.K F (vs ++ []) H1 R E0
    rw [List.append_nil]
    exact call_run (M := { M with W := fun _ _ _ _ => False, qx := fun _ _ => False }) f1 (fun _ _ _ _ _ _ _ q _ _ _ => q.elim) rx (k.go o1) (fun _ _ _ q => q) hx
theorem wpE_callS {ta : TA} (h : wpA M ta g fun ws g1 => callD M F ws g1 Q) : wpE M (tCallS (spOf M.K F) (fun σ => WE M.W σ) ta) g Q := fun Hi H θ σ f e R k =>
  h Hi H θ σ f e _ fun ws g1 vs Hi1 H1 θ1 hx f1 rx o1 => call_run f1 (e.go o1) rx (k.go o1) (fun _ _ _ q => q) hx
end
end DL

namespace DL
open PySem L2

/-! ### freezing cells that go into trees -/
def frzS (k : Nat) (d : D) : Option W → Option W
  | some (.c j) => if j = k then some (.d d) else some (.c j)
  | x => x
def G.frz (g : G) (k : Nat) (d : D) : G := ⟨g.rho.map (frzS k d), g.mu.set k .dead⟩
inductive Frz : List W → G → List D → G → Prop
  | nil (g : G) : Frz [] g [] g
  | d {ws : List W} {g g' : G} {ds : List D} {d : D} (h : Frz ws g ds g') : Frz (.d d :: ws) g (d :: ds) g'
  | pl {ws : List W} {g g' : G} {ds es : List D} {k : Nat} (h0 : g.mu[k]? = some (.pl es)) (h : Frz ws (g.frz k (.lst es)) ds g') : Frz (.c k :: ws) g (.lst es :: ds) g'
  | dic {ws : List W} {g g' : G} {ds : List D} {es : List (Key × D)} {k : Nat} (h0 : g.mu[k]? = some (.dic es)) (h : Frz ws (g.frz k (.dic es)) ds g') : Frz (.c k :: ws) g (.dic es :: ds) g'
  | ml {ws us : List W} {g g1 g' : G} {ds es : List D} {k : Nat} (h0 : g.mu[k]? = some (.ml us)) (h1 : Frz us g es g1) (h2 : g1.mu[k]? = some (.ml us)) (h : Frz ws (g1.frz k (.lst es)) ds g') : Frz (.c k :: ws) g (.lst es :: ds) g'
section
variable {K : PySem.W.Frag} {Hi H Hi' H' : Hp} {θ : List Addr} {σ : L2.St} {g g' : G} {ws : List W} {ds : List D} {vs : List V}
theorem Fit.frzW {k : Nat} {a : Addr} {d : D} {Hi' : Hp} (f : Fit K Hi H θ σ g) (hk : θ[k]? = some a) (r : DR K Hi' (.ref a) d) (m : MF K Hi' H θ (g.mu.set k .dead)) (x : Go Hi H θ Hi' H θ) : Fit K Hi' H θ σ (g.frz k d) := by
  refine ⟨m, by simp [G.frz, f.len], fun i w h => ?_⟩
  have h : (g.rho.map (frzS k d))[i]? = some (some w) := h
  rw [List.getElem?_map] at h
  cases e : g.rho[i]? with
  | none => rw [e] at h; cases h
  | some o =>
    rw [e] at h
    cases o with
    | none => cases h
    | some w0 =>
      obtain ⟨v, h1, h2⟩ := f.slot i w0 e
      refine ⟨v, h1, ?_⟩
      cases w0 with
      | d d0 =>
        cases h
        exact h2.go x
      | c j =>
        have h : some (if j = k then some (W.d d) else some (W.c j)) = some (some w) := h
        by_cases q : j = k
        · subst q
          rw [if_pos rfl] at h
          cases h
          obtain ⟨b, e1, e2⟩ := h2
          rw [hk] at e1
          cases e1
          subst e2
          exact r
        · rw [if_neg q] at h
          cases h
          exact h2.go x
theorem Frz.sound (z : Frz ws g ds g') : ∀ {Hi : Hp} {vs : List V}, Fit K Hi H θ σ g → WRs K Hi θ vs ws → ∃ Hi', Fit K Hi' H θ σ g' ∧ DRs K Hi' vs ds ∧ Go Hi H θ Hi' H θ := by
  induction z with
  | nil g =>
    intro Hi vs f r
    cases r.unnil
    exact ⟨Hi, f, .nil, Go.refl f.mf⟩
  | d h ih =>
    intro Hi vs f r
    obtain ⟨v, ys, rfl, r1, r2⟩ := r.uncons
    obtain ⟨Hi', f', r', o'⟩ := ih f r2
    exact ⟨Hi', f', .cons (DR.mono r1 o'.hi) r', o'⟩
  | pl h0 h ih =>
    intro Hi vs f r
    obtain ⟨v, ys, rfl, r1, r2⟩ := r.uncons
    obtain ⟨a, Hi1, hk, d1, m1, o1⟩ := f.mf.frz h0
    obtain ⟨b, e1, rfl⟩ := r1
    rw [hk] at e1
    cases e1
    obtain ⟨Hi', f', r', o'⟩ := ih (f.frzW hk d1 m1 o1) (r2.go o1)
    exact ⟨Hi', f', .cons (d1.mono o'.hi) r', o1.trans o'⟩
  | dic h0 h ih =>
    intro Hi vs f r
    obtain ⟨v, ys, rfl, r1, r2⟩ := r.uncons
    obtain ⟨a, Hi1, hk, d1, m1, o1⟩ := f.mf.frzD h0
    obtain ⟨b, e1, rfl⟩ := r1
    rw [hk] at e1
    cases e1
    obtain ⟨Hi', f', r', o'⟩ := ih (f.frzW hk d1 m1 o1) (r2.go o1)
    exact ⟨Hi', f', .cons (d1.mono o'.hi) r', o1.trans o'⟩
  | ml h0 h1 h2 h ih1 ih =>
    intro Hi vs f r
    obtain ⟨v, ys, rfl, r1, r2⟩ := r.uncons
    obtain ⟨a, hk, rfl⟩ := r1
    obtain ⟨_, xs, e2, e3⟩ := f.mf.cell _ a _ hk h0
    obtain ⟨Hi1, f1, d1, o1⟩ := ih1 f e3
    obtain ⟨Hi2, dd, m2, o2⟩ := f1.mf.frzM hk h2 e2 d1
    obtain ⟨Hi', f', r', o'⟩ := ih (f1.frzW hk dd m2 o2) ((r2.go o1).go o2)
    exact ⟨Hi', f', .cons (dd.mono o'.hi) r', (o1.trans o2).trans o'⟩
end

/-! ### displays -/
section
variable {M : Mx} {Hi H Hi' H' : Hp} {θ θ' : List Addr} {σ : L2.St} {g g1 : G} {Q : QE} {R : VK} {w x y : W} {v : V} {d : D} {p : Addr} {ds es : List D} {k : Nat} {ta : TA} {te : TE}
theorem wpE_tup (h : wpA M ta g fun ws g1 => ∃ ds g2, Frz ws g1 ds g2 ∧ ws.length ≤ 16777216 ∧ Q (.d (.tup ds)) g2) : wpE M (tTup ta) g Q := fun Hi H θ σ f e R k =>
  h Hi H θ σ f e _ fun ws g1 vs Hi1 H1 θ1 hx f1 rx o1 => by
    obtain ⟨ds, g2, z, hl, q⟩ := hx
    refine ⟨by rw [rx.1, sizeLine_eq]; exact hl, fun p hp => ?_⟩
    obtain ⟨Hi2, f2, r2, o2⟩ := z.sound f1 rx
    exact (k.go (o1.trans o2)).newT f2 hp r2 q
theorem wpE_lst (h : wpA M ta g fun ws g1 => ∃ ds g2, Frz ws g1 ds g2 ∧ ws.length ≤ 16777216 ∧ Q (.d (.lst ds)) g2) : wpE M (tLst ta) g Q := fun Hi H θ σ f e R k =>
  h Hi H θ σ f e _ fun ws g1 vs Hi1 H1 θ1 hx f1 rx o1 => by
    obtain ⟨ds, g2, z, hl, q⟩ := hx
    refine ⟨by rw [rx.1, sizeLine_eq]; exact hl, fun p hp => ?_⟩
    obtain ⟨Hi2, f2, r2, o2⟩ := z.sound f1 rx
    exact (k.go (o1.trans o2)).newL f2 hp r2 q
/-- a display that is to be changed: a cell -/
def tLstC (t : TA) : TE := tLst t
def tLstM (t : TA) : TE := tLst t
theorem wpE_lstC (h : wpA M ta g fun ws g1 => ∃ ds g2, Frz ws g1 ds g2 ∧ ws.length ≤ 16777216 ∧ Q (.c g2.mu.length) ⟨g2.rho, g2.mu ++ [.pl ds]⟩) : wpE M (tLstC ta) g Q := fun Hi H θ σ f e R k =>
  h Hi H θ σ f e _ fun ws g1 vs Hi1 H1 θ1 hx f1 rx o1 => by
    obtain ⟨ds, g2, z, hl, q⟩ := hx
    refine ⟨by rw [rx.1, sizeLine_eq]; exact hl, fun p hp => ?_⟩
    obtain ⟨Hi2, f2, r2, o2⟩ := z.sound f1 rx
    exact (k.go (o1.trans o2)).newPl f2 hp r2 q
theorem wpE_lstM (h : wpA M ta g fun ws g1 => ws.length ≤ 16777216 ∧ Q (.c g1.mu.length) ⟨g1.rho, g1.mu ++ [.ml ws]⟩) : wpE M (tLstM ta) g Q := fun Hi H θ σ f e R k =>
  h Hi H θ σ f e _ fun ws g1 vs Hi1 H1 θ1 hx f1 rx o1 => by
    obtain ⟨hl, q⟩ := hx
    exact ⟨by rw [rx.1, sizeLine_eq]; exact hl, fun p hp => (k.go o1).newMl f1 hp rx q⟩
end

/-! ### what a for walks -/
def IterOk (K : PySem.W.Frag) (Hi0 : Hp) (J : It) (ds : List D) : Prop := ∀ (i : Nat) (Hi H : Hp) (θ : List Addr) (μ : List Cell), Sub Hi0 Hi → MF K Hi H θ μ →
  (i < ds.length → J.go i H ∧ ∀ x H', J.yld i H x H' → ∃ Hi' d, ds[i]? = some d ∧ DR K Hi' x d ∧ MF K Hi' H' θ μ ∧ Go Hi H θ Hi' H' θ) ∧ (i = ds.length → J.stop i H)
def wpI (M : Mx) (wi : TI) (g : G) (Q : List D → G → Prop) : Prop := ∀ Hi H θ σ, Fit M.K Hi H θ σ g → XOk M Hi H θ → ∀ R : It → Hp → Prop,
  (∀ ds g' J Hi' H' θ', Q ds g' → Fit M.K Hi' H' θ' σ g' → Go Hi H θ Hi' H' θ' → IterOk M.K Hi' J ds → R J H') → wi σ H R
section
variable {M : Mx} {K : PySem.W.Frag} {Hi H Hi' H' : Hp} {θ θ' : List Addr} {σ : L2.St} {g g1 : G} {Q : List D → G → Prop} {w : W} {d : D} {ds es : List D} {ta : TA} {te : TE} {a b : Addr} {xs ys : List V} {wi : TI} {gt : TG} {tb : TS} {n : N}
theorem it_list (h : SqL K Hi a xs) (r : DRs K Hi xs ds) : IterOk K Hi (Itl K a) ds := fun i Hi1 H1 θ1 μ1 s m => by
  have h1 : SqL K H1 a xs := m.sub.sqL (s.sqL h)
  refine ⟨fun hi => ?_, fun hi => ⟨xs, h1, by rw [r.1]; omega⟩⟩
  have hx : i < xs.length := by rw [r.1]; exact hi
  refine ⟨⟨xs, xs[i], h1, List.getElem?_eq_getElem hx⟩, fun x H' hy => ?_⟩
  obtain ⟨e, hy⟩ := hy
  subst e
  exact ⟨Hi1, ds[i], List.getElem?_eq_getElem hi, (r.mono s).2 i x _ (hy xs h1) (List.getElem?_eq_getElem hi), m, Go.refl m⟩
theorem it_tup (h : SqT K Hi a xs) (r : DRs K Hi xs ds) : IterOk K Hi (Itt K a) ds := fun i Hi1 H1 θ1 μ1 s m => by
  have h1 : SqT K H1 a xs := m.sub.sqT (s.sqT h)
  refine ⟨fun hi => ?_, fun hi => ⟨xs, h1, by rw [r.1]; omega⟩⟩
  have hx : i < xs.length := by rw [r.1]; exact hi
  refine ⟨⟨xs, xs[i], h1, List.getElem?_eq_getElem hx⟩, fun x H' hy => ?_⟩
  obtain ⟨e, hy⟩ := hy
  subst e
  exact ⟨Hi1, ds[i], List.getElem?_eq_getElem hi, (r.mono s).2 i x _ (hy xs h1) (List.getElem?_eq_getElem hi), m, Go.refl m⟩
/-- lo, lo + 1, .. -/
def rngD (lo : Int) (n : Nat) : List D := (List.range n).map fun (i : Nat) => D.int (lo + (i : Int))
theorem rngD_len (lo : Int) (n : Nat) : (rngD lo n).length = n := by simp [rngD]
theorem rngD_get {lo : Int} {n i : Nat} {d : D} (h : (rngD lo n)[i]? = some d) : i < n ∧ d = .int (lo + (i : Int)) := by
  have hi : i < n := by have := (List.getElem?_eq_some_iff.mp h).1; rwa [rngD_len] at this
  refine ⟨hi, ?_⟩
  unfold rngD at h
  rw [List.getElem?_map, List.getElem?_range hi] at h
  cases h
  rfl
theorem it_rng (lo : Int) (n : Nat) : IterOk K Hi (Itr lo n) (rngD lo n) := fun i Hi1 H1 θ1 μ1 s m => by
  rw [rngD_len]
  refine ⟨fun hi => ⟨hi, fun x H' hy => ?_⟩, fun hi => Nat.le_of_eq hi.symm⟩
  obtain ⟨e, e2⟩ := hy
  subst e e2
  refine ⟨Hi1, .int (lo + (i : Int)), ?_, .int _, m, Go.refl m⟩
  unfold rngD
  rw [List.getElem?_map, List.getElem?_range hi]
  rfl
/-- (0, a), (1, b), .. -/
def enumD (ds : List D) : List D := ds.zipIdx.map fun p => D.tup [.int (p.2 : Nat), p.1]
theorem enumD_len (ds : List D) : (enumD ds).length = ds.length := by simp [enumD]
theorem enumD_get {ds : List D} {i : Nat} {d : D} (h : (enumD ds)[i]? = some d) : ∃ e, ds[i]? = some e ∧ d = .tup [.int (i : Nat), e] := by
  unfold enumD at h
  rw [List.getElem?_map, List.getElem?_zipIdx] at h
  cases e : ds[i]? with
  | none => rw [e] at h; cases h
  | some x =>
    rw [e] at h
    simp at h
    exact ⟨x, rfl, h.symm⟩
theorem it_enum (h : SqL K Hi a xs) (r : DRs K Hi xs ds) : IterOk K Hi (Ite K a) (enumD ds) := fun i Hi1 H1 θ1 μ1 s m => by
  rw [enumD_len]
  have h1 : SqL K H1 a xs := m.sub.sqL (s.sqL h)
  refine ⟨fun hi => ?_, fun hi => ⟨xs, h1, by rw [r.1]; omega⟩⟩
  have hx : i < xs.length := by rw [r.1]; exact hi
  refine ⟨⟨xs, xs[i], h1, List.getElem?_eq_getElem hx⟩, fun v H' hy => ?_⟩
  obtain ⟨T, x, rfl, hT, rfl, hy⟩ := hy
  have q := (r.mono s).2 i x _ (hy xs h1) (List.getElem?_eq_getElem hi)
  refine ⟨upd Hi1 T (.tup [.int (i : Nat), x]), .tup [.int (i : Nat), ds[i]], ?_, .mkt (.of upd_same) (.cons (.int _) (.cons (q.mono (Sub.new (m.sub.none hT))) .nil)), m.newI hT, Go.newI m hT⟩
  unfold enumD
  rw [List.getElem?_map, List.getElem?_zipIdx, List.getElem?_eq_getElem hi]
  simp
def zipD (ds es : List D) : List D := (ds.zip es).map fun p => D.tup [p.1, p.2]
theorem it_zip (h : SqL K Hi a xs) (r : DRs K Hi xs ds) (h2 : SqL K Hi b ys) (r2 : DRs K Hi ys es) : IterOk K Hi (Itz K a b) (zipD ds es) := fun i Hi1 H1 θ1 μ1 s m => by
  have hl : (zipD ds es).length = min ds.length es.length := by simp [zipD]
  rw [hl]
  have h1 : SqL K H1 a xs := m.sub.sqL (s.sqL h)
  have h3 : SqL K H1 b ys := m.sub.sqL (s.sqL h2)
  refine ⟨fun hi => ?_, fun hi => ⟨xs, ys, h1, h3, by rw [r.1, r2.1]; omega⟩⟩
  have hd1 : i < ds.length := by omega
  have hd2 : i < es.length := by omega
  have hx : i < xs.length := by rw [r.1]; exact hd1
  have hy : i < ys.length := by rw [r2.1]; exact hd2
  refine ⟨⟨xs, ys, xs[i], ys[i], h1, h3, List.getElem?_eq_getElem hx, List.getElem?_eq_getElem hy⟩, fun v H' hz => ?_⟩
  obtain ⟨T, x, y, rfl, hT, rfl, hz1, hz2⟩ := hz
  have sn : Sub Hi1 (upd Hi1 T (.tup [x, y])) := Sub.new (m.sub.none hT)
  have q1 := ((r.mono s).2 i x _ (hz1 xs h1) (List.getElem?_eq_getElem hd1)).mono sn
  have q2 := ((r2.mono s).2 i y _ (hz2 ys h3) (List.getElem?_eq_getElem hd2)).mono sn
  refine ⟨upd Hi1 T (.tup [x, y]), .tup [ds[i], es[i]], ?_, .mkt (.of upd_same) (.cons q1 (.cons q2 .nil)), m.newI hT, Go.newI m hT⟩
  unfold zipD
  rw [List.getElem?_map, List.getElem?_eq_getElem (by simp; omega)]
  simp
theorem wpI_list (h : wpE M te g fun w g1 => ∃ ds, w = .d (.lst ds) ∧ Q ds g1) : wpI M (iList M.K te) g Q := fun Hi H θ σ f e R k =>
  h Hi H θ σ f e _ fun w g1 v Hi1 H1 θ1 hx f1 rx o1 => by
    obtain ⟨ds, rfl, q⟩ := hx
    obtain ⟨a, xs, rfl, h1, h2⟩ := DR.as_lst rx
    exact ⟨a, rfl, ⟨xs, f1.mf.sub.sqL h1⟩, k ds g1 _ Hi1 H1 θ1 q f1 o1 (it_list h1 h2)⟩
theorem wpI_tup (h : wpE M te g fun w g1 => ∃ ds, w = .d (.tup ds) ∧ Q ds g1) : wpI M (iTup M.K te) g Q := fun Hi H θ σ f e R k =>
  h Hi H θ σ f e _ fun w g1 v Hi1 H1 θ1 hx f1 rx o1 => by
    obtain ⟨ds, rfl, q⟩ := hx
    obtain ⟨a, xs, rfl, h1, h2⟩ := DR.as_tup rx
    exact ⟨a, rfl, ⟨xs, f1.mf.sub.sqT h1⟩, k ds g1 _ Hi1 H1 θ1 q f1 o1 (it_tup h1 h2)⟩
theorem wpI_rng1 (h : wpA M ta g fun ws g1 => ∃ j : Int, ws = [.d (.int j)] ∧ -(2 ^ 62) ≤ j ∧ j < 2 ^ 62 ∧ Q (rngD 0 j.toNat) g1) : wpI M (iRng1 ta) g Q := fun Hi H θ σ f e R k =>
  h Hi H θ σ f e _ fun ws g1 vs Hi1 H1 θ1 hx f1 rx o1 => by
    obtain ⟨j, rfl, h1, h2, q⟩ := hx
    obtain ⟨v, zs, rfl, r1, r2⟩ := rx.uncons
    cases r2.unnil
    cases DR.as_int r1
    exact ⟨j, rfl, h1, h2, k _ g1 _ Hi1 H1 θ1 q f1 o1 (it_rng _ _)⟩
theorem wpI_rng2 (h : wpA M ta g fun ws g1 => ∃ i j : Int, ws = [.d (.int i), .d (.int j)] ∧ (-(2 ^ 62) ≤ i ∧ i < 2 ^ 62 ∧ -(2 ^ 62) ≤ j ∧ j < 2 ^ 62) ∧ Q (rngD i (j - i).toNat) g1) : wpI M (iRng2 ta) g Q := fun Hi H θ σ f e R k =>
  h Hi H θ σ f e _ fun ws g1 vs Hi1 H1 θ1 hx f1 rx o1 => by
    obtain ⟨i, j, rfl, h1, q⟩ := hx
    obtain ⟨v, zs, rfl, r1, r2⟩ := rx.uncons
    obtain ⟨u, zs, rfl, r3, r4⟩ := r2.uncons
    cases r4.unnil
    cases DR.as_int r1
    cases DR.as_int r3
    exact ⟨i, j, rfl, h1, k _ g1 _ Hi1 H1 θ1 q f1 o1 (it_rng _ _)⟩
theorem wpI_enum (h : wpA M ta g fun ws g1 => ∃ ds, ws = [.d (.lst ds)] ∧ Q (enumD ds) g1) : wpI M (iEnum M.K ta) g Q := fun Hi H θ σ f e R k =>
  h Hi H θ σ f e _ fun ws g1 vs Hi1 H1 θ1 hx f1 rx o1 => by
    obtain ⟨ds, rfl, q⟩ := hx
    obtain ⟨v, zs, rfl, r1, r2⟩ := rx.uncons
    cases r2.unnil
    obtain ⟨a, xs, rfl, h1, h2⟩ := DR.as_lst r1
    exact ⟨a, xs, rfl, f1.mf.sub.sqL h1, k _ g1 _ Hi1 H1 θ1 q f1 o1 (it_enum h1 h2)⟩
theorem wpI_zip (h : wpA M ta g fun ws g1 => ∃ ds es, ws = [.d (.lst ds), .d (.lst es)] ∧ Q (zipD ds es) g1) : wpI M (iZip M.K ta) g Q := fun Hi H θ σ f e R k =>
  h Hi H θ σ f e _ fun ws g1 vs Hi1 H1 θ1 hx f1 rx o1 => by
    obtain ⟨ds, es, rfl, q⟩ := hx
    obtain ⟨v, zs, rfl, r1, r2⟩ := rx.uncons
    obtain ⟨u, zs, rfl, r3, r4⟩ := r2.uncons
    cases r4.unnil
    obtain ⟨a, xs, rfl, h1, h2⟩ := DR.as_lst r1
    obtain ⟨b, ys, rfl, h3, h4⟩ := DR.as_lst r3
    exact ⟨a, b, xs, ys, rfl, f1.mf.sub.sqL h1, f1.mf.sub.sqL h3, k _ g1 _ Hi1 H1 θ1 q f1 o1 (it_zip h1 h2 h3 h4)⟩

/-- a for: I by the turn -/
theorem wpS_for (h : wpI M wi g fun ds g1 => ∃ I : Nat → G → Prop, I 0 g1 ∧
    (∀ i d g2, ds[i]? = some d → I i g2 → wpG M gt (.d d) g2 fun g3 => wpS M tb g3 { nx := I (i + 1), rt := n.rt, bk := n.nx, ct := I (i + 1) }) ∧ ∀ g2, I ds.length g2 → n.nx g2) : wpS M (tFor wi gt tb) g n := fun Hi H θ σ f e D k =>
  h Hi H θ σ f e _ fun ds g1 J Hi1 H1 θ1 hx f1 o1 it => by
    obtain ⟨I, i0, st, en⟩ := hx
    refine ⟨fun i m σ' H' => m = ds.length - i ∧ i ≤ ds.length ∧ ∃ g' Hi' θ', I i g' ∧ Fit M.K Hi' H' θ' σ' g' ∧ Go Hi1 H1 θ1 Hi' H' θ', ⟨ds.length, by simp, Nat.zero_le _, g1, Hi1, θ1, i0, f1, Go.refl f1.mf⟩, ?_⟩
    rintro i m σ' H' ⟨rfl, hi, g', Hi', θ', ig, fg, og⟩
    obtain ⟨t1, t2⟩ := it i Hi' H' θ' g'.mu og.hi fg.mf
    by_cases hlt : i < ds.length
    · obtain ⟨ggo, gy⟩ := t1 hlt
      refine .inr ⟨ggo, fun σ3 H3 => ∃ g3 Hi3 θ3, I (i + 1) g3 ∧ Fit M.K Hi3 H3 θ3 σ3 g3 ∧ Go Hi1 H1 θ1 Hi3 H3 θ3, fun σ3 H3 z => ⟨ds.length - (i + 1), by omega, rfl, by omega, z⟩, fun x H2 hy => ?_⟩
      obtain ⟨Hi2, d, hd, rd, m2, o2⟩ := gy x H2 hy
      have oo := og.trans o2
      refine st i d g' hd ig Hi2 H2 θ' σ' (fg.go m2 o2) ((e.go o1).go oo) x rd _ fun g3 σ3 Hi3 H3 θ3 q3 f3 o3 => ?_
      have o4 := oo.trans o3
      refine q3 Hi3 H3 θ3 σ3 f3 ((e.go o1).go o4) _ ⟨?_, ?_, ?_, ?_⟩
      · exact fun g5 σ5 Hi5 H5 θ5 q5 f5 o5 => ⟨g5, Hi5, θ5, q5, f5, o4.trans o5⟩
      · exact fun w μ v a b c h1 h2 h3 h4 => k.rt w μ v a b c h1 h2 h3 (o1.trans (o4.trans h4))
      · exact fun g5 σ5 a b c h1 h2 h3 => k.nx g5 σ5 a b c h1 h2 (o1.trans (o4.trans h3))
      · exact fun g5 σ5 Hi5 H5 θ5 q5 f5 o5 => ⟨g5, Hi5, θ5, q5, f5, o4.trans o5⟩
    · have e0 : i = ds.length := by omega
      exact .inl ⟨t2 e0, k.nx g' σ' Hi' H' θ' (en g' (by rw [← e0]; exact ig)) fg (o1.trans og)⟩
end

/-! ### comprehensions -/
def wipeRho (ρ : List (Option W)) : List Nat → List (Option W)
  | [] => ρ
  | v :: vs => (wipeRho ρ vs).set v none
theorem wipe_get (σ : L2.St) (i : Nat) : ∀ vs : List Nat, (wipe σ vs)[i]? = if i ∈ vs then (if i < σ.length then some none else none) else σ[i]?
  | [] => by simp [wipe]
  | v :: vs => by
    show ((wipe σ vs).set v none)[i]? = _
    by_cases h : v = i
    · subst h
      rw [if_pos List.mem_cons_self]
      by_cases hl : v < σ.length
      · rw [if_pos hl, List.getElem?_set_self (by rw [wipe_length]; exact hl)]
      · rw [if_neg hl, List.getElem?_eq_none (by rw [List.length_set, wipe_length]; omega)]
    · rw [List.getElem?_set_ne h, wipe_get σ i vs]
      by_cases hm : i ∈ vs
      · rw [if_pos hm, if_pos (List.mem_cons_of_mem _ hm)]
      · rw [if_neg hm, if_neg]
        intro q
        rcases List.mem_cons.mp q with q | q
        · exact h q.symm
        · exact hm q
theorem wipe_set {σ : L2.St} {vs : List Nat} {j : Nat} {x : Option V} (hj : j ∈ vs) : wipe (σ.set j x) vs = wipe σ vs := by
  refine List.ext_getElem? fun i => ?_
  rw [wipe_get, wipe_get]
  by_cases h : i ∈ vs
  · rw [if_pos h, if_pos h, List.length_set]
  · rw [if_neg h, if_neg h, List.getElem?_set_ne]
    intro q
    exact h (by rw [← q]; exact hj)
theorem wipe_wipe (σ : L2.St) (vs : List Nat) : wipe (wipe σ vs) vs = wipe σ vs := by
  refine List.ext_getElem? fun i => ?_
  rw [wipe_get, wipe_get, wipe_length]
  by_cases h : i ∈ vs
  · rw [if_pos h, if_pos h]
  · rw [if_neg h, if_neg h]
theorem wipeRho_length (ρ : List (Option W)) : ∀ vs, (wipeRho ρ vs).length = ρ.length
  | [] => rfl
  | v :: vs => by
    show ((wipeRho ρ vs).set v none).length = _
    rw [List.length_set, wipeRho_length ρ vs]
theorem wipeRho_get {ρ : List (Option W)} {i : Nat} {w : W} : ∀ {vs : List Nat}, (wipeRho ρ vs)[i]? = some (some w) → ρ[i]? = some (some w) ∧ i ∉ vs
  | [], h => ⟨h, by simp⟩
  | v :: vs, h => by
    have h : ((wipeRho ρ vs).set v none)[i]? = some (some w) := h
    by_cases q : v = i
    · subst q
      by_cases hl : v < (wipeRho ρ vs).length
      · rw [List.getElem?_set_self hl] at h
        cases h
      · rw [List.getElem?_eq_none (by simpa using hl)] at h
        cases h
    · rw [List.getElem?_set_ne q] at h
      obtain ⟨h1, h2⟩ := wipeRho_get h
      exact ⟨h1, by simp; exact ⟨fun z => q z.symm, h2⟩⟩
/-- a target that stores nothing but slots of vs -/
def TgOk (gt : TG) (vs : List Nat) : Prop := ∀ v σ H (Q : L2.St → Hp → Prop), gt v σ H Q → gt v σ H fun σ2 H2 => wipe σ2 vs = wipe σ vs ∧ Q σ2 H2
def TgsOk (gt : TGs) (vs : List Nat) : Prop := ∀ us σ H (Q : L2.St → Hp → Prop), gt us σ H Q → gt us σ H fun σ2 H2 => wipe σ2 vs = wipe σ vs ∧ Q σ2 H2
theorem tg_name {i : Nat} {vs : List Nat} (h : i ∈ vs) : TgOk (gName i) vs := fun v σ H Q q => ⟨wipe_set h, q⟩
theorem tgs_nil {vs : List Nat} : TgsOk gNil vs := fun us σ H Q q => ⟨q.1, rfl, q.2⟩
theorem TgOk.mono {gt : TG} {vs : List Nat} (h : TgOk gt vs) : True := trivial
theorem tgs_cons {i : Nat} {gs : TGs} {vs : List Nat} (h : i ∈ vs) (h2 : TgsOk gs vs) : TgsOk (gCons (gName i) gs) vs := fun us σ H Q q => by
  obtain ⟨v, r, e, q⟩ := q
  refine ⟨v, r, e, ?_⟩
  have q2 := h2 r (σ.set i (some v)) H Q q
  rw [wipe_set h] at q2
  exact q2
theorem tg_tup {K : PySem.W.Frag} {n : Nat} {gs : TGs} {vs : List Nat} (h2 : TgsOk gs vs) : TgOk (gTup K n gs) vs := fun v σ H Q q => by
  obtain ⟨a, xs, e, h, hl, q⟩ := q
  exact ⟨a, xs, e, h, hl, h2 xs σ H Q q⟩
section
variable {M : Mx} {Hi H Hi' H' : Hp} {θ θ' : List Addr} {σ : L2.St} {g g1 : G} {Q : QE} {te : TE} {tt : TT} {wi : TI} {gt : TG} {vs : List Nat}
theorem wpT_yes {g : G} {QT : Bool → G → Prop} (q : QT true g) : wpT M tYes g QT := fun Hi H θ σ f e R k => k true g Hi H θ q f (Go.refl f.mf)
/-- [e for t in it if c], the items trees: I by the turn, what is gathered, the cells -/
theorem wpE_lc (ht : TgOk gt vs) (h : wpI M wi g fun ds g1 => ds.length ≤ 16777215 ∧ ∃ I : Nat → List D → List Cell → Prop, I 0 [] g1.mu ∧
    (∀ i d acc μ, ds[i]? = some d → I i acc μ → acc.length ≤ i → wpG M gt (.d d) ⟨wipeRho g1.rho vs, μ⟩ fun g2 => wpT M tt g2 fun b g3 => (b = true → wpE M te g3 fun w g4 => ∃ e, w = .d e ∧ I (i + 1) (acc ++ [e]) g4.mu) ∧ (b = false → I (i + 1) acc g3.mu)) ∧
    ∀ acc μ, I ds.length acc μ → acc.length ≤ ds.length → Q (.d (.lst acc)) ⟨g1.rho, μ⟩) : wpE M (tLc wi gt tt te vs) g Q := fun Hi H θ σ f e R k =>
  h Hi H θ σ f e _ fun ds g1 J Hi1 H1 θ1 hx f1 o1 it => by
    obtain ⟨hsz, I, i0, st, en⟩ := hx
    intro Dl hD
    have hDi : Hi1 Dl = none := f1.mf.sub.none hD
    have hDθ : Dl ∉ θ1 := fun q => f1.mf.there Dl q hD
    have m0 : MF M.K Hi1 (upd H1 Dl (.lst [])) θ1 g1.mu := by
      refine ⟨f1.mf.sub.mut hDi, f1.mf.len, f1.mf.nd, fun a ha => ?_, fun j a c h1 h2 => ?_⟩
      · rw [upd_ne fun q => hDθ (by rw [← q]; exact ha)]; exact f1.mf.there a ha
      · have hne : a ≠ Dl := fun q => hDθ (by rw [← q]; exact List.mem_of_getElem? h1)
        refine (f1.mf.cell j a c h1 h2).mono (Sub.refl _) ?_ ⟨[], by simp⟩ (upd_ne hne)
        by_cases q : c = .dead
        · exact .inl q
        · exact .inr ((f1.mf.cell j a c h1 h2).no q)
    have go0 : Go Hi1 H1 θ1 Hi1 (upd H1 Dl (.lst [])) θ1 := ⟨⟨[], by simp, fun _ h => by simp at h⟩, Sub.refl _, fun _ _ h => .inl h, fun a o h _ => by rw [upd_ne (ne_of_none h hD)]; exact h, m0.there⟩
    refine ⟨fun i m H' => m = ds.length - i ∧ i ≤ ds.length ∧ ∃ acc μ Hi' θ' xs, I i acc μ ∧ acc.length ≤ i ∧ MF M.K Hi' H' θ' μ ∧ Go Hi1 H1 θ1 Hi' H' θ' ∧ Hi' Dl = none ∧ Dl ∉ θ' ∧ H' Dl = some (.lst xs) ∧ DRs M.K Hi' xs acc,
      ⟨ds.length, by simp, Nat.zero_le _, [], g1.mu, Hi1, θ1, [], i0, Nat.le_refl _, m0, go0, hDi, hDθ, upd_same, .nil⟩, ?_⟩
    rintro i m H' ⟨rfl, hi, acc, μ, Hi', θ', xs, ia, ha, ma, oa, na, ta, la, ra⟩
    obtain ⟨t1, t2⟩ := it i Hi' H' θ' μ oa.hi ma
    by_cases hlt : i < ds.length
    · obtain ⟨ggo, gy⟩ := t1 hlt
      refine .inr ⟨ggo, fun H3 => ∃ acc μ Hi' θ' xs, I (i + 1) acc μ ∧ acc.length ≤ i + 1 ∧ MF M.K Hi' H3 θ' μ ∧ Go Hi1 H1 θ1 Hi' H3 θ' ∧ Hi' Dl = none ∧ Dl ∉ θ' ∧ H3 Dl = some (.lst xs) ∧ DRs M.K Hi' xs acc, fun H3 z => ⟨ds.length - (i + 1), by omega, rfl, by omega, z⟩, fun x H2 hy => ?_⟩
      obtain ⟨Hi2, d, hd, rd, m2, o2⟩ := gy x H2 hy
      -- what the list at Dl bears is not touched by what goes on beside it
      have stay : ∀ {Hi3 H3 θ3}, Go Hi' H' θ' Hi3 H3 θ3 → Hi3 Dl = none ∧ Dl ∉ θ3 ∧ H3 Dl = some (.lst xs) := fun {Hi3 H3 θ3} o => by
        refine ⟨?_, fun q => ?_, o.keep _ _ la ta⟩
        · cases z : Hi3 Dl with
          | none => rfl
          | some u =>
            rcases o.new _ _ z with z | z | z
            · rw [na] at z; cases z
            · rw [la] at z; cases z
            · exact absurd z ta
        · obtain ⟨ν, e1, e2⟩ := o.ext
          rw [e1] at q
          rcases List.mem_append.mp q with q | q
          · exact ta q
          · have z := e2 _ q
            rw [la] at z
            cases z
      have fw : Fit M.K Hi2 H2 θ' (wipe σ vs) ⟨wipeRho g1.rho vs, μ⟩ := by
        have oo : Go Hi1 H1 θ1 Hi2 H2 θ' := oa.trans o2
        refine ⟨m2, by rw [wipe_length, wipeRho_length]; exact f1.len, fun j w hw => ?_⟩
        obtain ⟨q1, q2⟩ := wipeRho_get hw
        obtain ⟨v, e1, e2⟩ := f1.slot j w q1
        exact ⟨v, by rw [wipe_get, if_neg q2]; exact e1, e2.go oo⟩
      have ee : ∀ {Hi3 H3 θ3}, Go Hi2 H2 θ' Hi3 H3 θ3 → XOk M Hi3 H3 θ3 := fun {Hi3 H3 θ3} o => (e.go o1).go ((oa.trans o2).trans o)
      have q0 := st i d acc μ hd ia ha Hi2 H2 θ' (wipe σ vs) fw (ee (Go.refl m2)) x rd
      have q1 := fun (R : L2.St → Hp → Prop) hR => ht x (wipe σ vs) H2 R (q0 R hR)
      have q2 := q1 (fun σ2 H3 => tt σ2 H3 fun b H4 => if b = true then te σ2 H4 fun y H5 => ∃ acc0, H5 Dl = some (.lst acc0) ∧ acc0.length < sizeLine ∧
        (∃ acc μ Hi' θ' xs, I (i + 1) acc μ ∧ acc.length ≤ i + 1 ∧ MF M.K Hi' (upd H5 Dl (.lst (acc0 ++ [y]))) θ' μ ∧ Go Hi1 H1 θ1 Hi' (upd H5 Dl (.lst (acc0 ++ [y]))) θ' ∧ Hi' Dl = none ∧ Dl ∉ θ' ∧ (upd H5 Dl (.lst (acc0 ++ [y]))) Dl = some (.lst xs) ∧ DRs M.K Hi' xs acc)
        else ∃ acc μ Hi' θ' xs, I (i + 1) acc μ ∧ acc.length ≤ i + 1 ∧ MF M.K Hi' H4 θ' μ ∧ Go Hi1 H1 θ1 Hi' H4 θ' ∧ Hi' Dl = none ∧ Dl ∉ θ' ∧ H4 Dl = some (.lst xs) ∧ DRs M.K Hi' xs acc) fun g3 σ3 Hi3 H3 θ3 z3 f3 o3 => ?_
      · rw [wipe_wipe] at q2
        exact q2
      refine z3 Hi3 H3 θ3 σ3 f3 (ee o3) _ fun b g4 Hi4 H4 θ4 z4 f4 o4 => ?_
      have o34 := o2.trans (o3.trans o4)
      cases b with
      | false =>
        rw [if_neg Bool.false_ne_true]
        obtain ⟨s1, s2, s3⟩ := stay o34
        exact ⟨acc, g4.mu, Hi4, θ4, xs, z4.2 rfl, by omega, f4.mf, oa.trans o34, s1, s2, s3, ra.mono o34.hi⟩
      | true =>
        rw [if_pos rfl]
        refine z4.1 rfl Hi4 H4 θ4 σ3 f4 (ee (o3.trans o4)) _ fun w g5 v Hi5 H5 θ5 z5 f5 r5 o5 => ?_
        obtain ⟨e5, rfl, i5⟩ := z5
        have o25 := o34.trans o5
        obtain ⟨s1, s2, s3⟩ := stay o25
        have hl : xs.length < sizeLine := by rw [ra.1, sizeLine_eq]; omega
        refine ⟨xs, s3, hl, acc ++ [e5], g5.mu, Hi5, θ5, xs ++ [v], i5, by simp; omega, ?_, ?_, s1, s2, upd_same, (ra.mono o25.hi).append (.cons r5 .nil)⟩
        · refine ⟨f5.mf.sub.mut s1, f5.mf.len, f5.mf.nd, fun a ha => ?_, fun j a c h1 h2 => ?_⟩
          · rw [upd_ne fun q => s2 (by rw [← q]; exact ha)]; exact f5.mf.there a ha
          · have hne : a ≠ Dl := fun q => s2 (by rw [← q]; exact List.mem_of_getElem? h1)
            refine (f5.mf.cell j a c h1 h2).mono (Sub.refl _) ?_ ⟨[], by simp⟩ (upd_ne hne)
            by_cases q : c = .dead
            · exact .inl q
            · exact .inr ((f5.mf.cell j a c h1 h2).no q)
        · have oo := oa.trans o25
          refine ⟨oo.ext, oo.hi, oo.new, fun a o h hm => ?_, fun a ha => ?_⟩
          · rw [upd_ne (ne_of_none h hD)]
            exact oo.keep a o h hm
          · rw [upd_ne fun q => s2 (by rw [← q]; exact ha)]
            exact oo.there a ha
    · have e0 : i = ds.length := by omega
      refine .inl ⟨t2 e0, ?_⟩
      have sb : Sub Hi' (upd Hi' Dl (.lst xs)) := Sub.new na
      have mF : MF M.K (upd Hi' Dl (.lst xs)) H' θ' μ := by
        refine ⟨fun b u h => ?_, ma.len, ma.nd, ma.there, fun j a c h1 h2 => ?_⟩
        · by_cases q : b = Dl
          · subst q
            rw [upd_same] at h
            cases h
            exact la
          · rw [upd_ne q] at h
            exact ma.sub b u h
        · have hne : a ≠ Dl := fun q => ta (by rw [← q]; exact List.mem_of_getElem? h1)
          refine (ma.cell j a c h1 h2).mono sb ?_ ⟨[], by simp⟩ rfl
          by_cases q : c = .dead
          · exact .inl q
          · exact .inr (by rw [upd_ne hne]; exact (ma.cell j a c h1 h2).no q)
      have goF : Go Hi1 H1 θ1 (upd Hi' Dl (.lst xs)) H' θ' := by
        refine ⟨oa.ext, oa.hi.trans sb, fun b u h => ?_, oa.keep, oa.there⟩
        by_cases q : b = Dl
        · exact .inr (.inl (by rw [q]; exact hD))
        · rw [upd_ne q] at h
          exact oa.new b u h
      exact k (.d (.lst acc)) ⟨g1.rho, μ⟩ (.ref Dl) _ H' θ' (en acc μ (by rw [← e0]; exact ia) (by omega)) (f1.go mF goF) (.mkl (.of upd_same) (ra.mono sb)) (o1.trans goF)
end
end DL

namespace DL
open PySem L2

/-! ### trees as the library's data -/
mutual
def toPy : D → PyData
  | .non => .none
  | .bl b => .bool b
  | .int i => .int i
  | .str x => .str x
  | .lst xs => .list (toPys xs)
  | .tup xs => .tuple (toPys xs)
  | .ty _ => .none
  | .adr _ => .none
  | .rng _ _ => .none
  | .obj _ _ => .none
  | .dic _ => .none
def toPys : List D → List PyData
  | [] => []
  | d :: ds => toPy d :: toPys ds
end
theorem toPys_map : ∀ ds : List D, toPys ds = ds.map toPy
  | [] => by simp [toPys]
  | d :: ds => by simp [toPys, toPys_map ds]
/-- plain data of at most that depth -/
def Fine : Nat → D → Prop
  | _, .non => True
  | _, .bl _ => True
  | _, .int _ => True
  | _, .str x => PyData.strOk x = true
  | n + 1, .lst ds => ∀ d ∈ ds, Fine n d
  | n + 1, .tup ds => ∀ d ∈ ds, Fine n d
  | _, _ => False
theorem Fine.up : ∀ {n : Nat} {d : D}, Fine n d → Fine (n + 1) d
  | n, .non, _ => trivial
  | n, .bl _, _ => trivial
  | n, .int _, _ => trivial
  | n, .str x, h => by cases n <;> exact h
  | 0, .lst ds, h => h.elim
  | 0, .tup ds, h => h.elim
  | n + 1, .lst ds, h => fun d hd => Fine.up (h d hd)
  | n + 1, .tup ds, h => fun d hd => Fine.up (h d hd)
  | 0, .ty _, h => h.elim
  | 0, .adr _, h => h.elim
  | 0, .rng _ _, h => h.elim
  | 0, .obj _ _, h => h.elim
  | 0, .dic _, h => h.elim
  | n + 1, .ty _, h => h.elim
  | n + 1, .adr _, h => h.elim
  | n + 1, .rng _ _, h => h.elim
  | n + 1, .obj _ _, h => h.elim
  | n + 1, .dic _, h => h.elim
theorem canLayAll_of : ∀ {ds : List PyData}, (∀ d ∈ ds, PyData.canLay0 d = true) → PyData.canLayAll0 ds = true
  | [], _ => by simp [PyData.canLayAll0]
  | d :: ds, h => by
    simp only [PyData.canLayAll0, Bool.and_eq_true]
    exact ⟨h d List.mem_cons_self, canLayAll_of fun e he => h e (List.mem_cons_of_mem _ he)⟩
theorem depthAll_of {n : Nat} : ∀ {ds : List PyData}, (∀ d ∈ ds, PyData.depth d ≤ n) → PyData.depthAll ds ≤ n
  | [], _ => by simp [PyData.depthAll]
  | d :: ds, h => by
    simp only [PyData.depthAll]
    have h1 := h d List.mem_cons_self
    have h2 := depthAll_of fun e he => h e (List.mem_cons_of_mem _ he)
    omega
theorem Fine.py : ∀ {n : Nat} {d : D}, Fine n d → (toPy d).canLay0 = true ∧ (toPy d).depth ≤ n
  | n, .non, _ => ⟨by simp [toPy, PyData.canLay0], by simp [toPy, PyData.depth]⟩
  | n, .bl _, _ => ⟨by simp [toPy, PyData.canLay0], by simp [toPy, PyData.depth]⟩
  | n, .int _, _ => ⟨by simp [toPy, PyData.canLay0], by simp [toPy, PyData.depth]⟩
  | n, .str x, h => by
    have h : PyData.strOk x = true := by cases n <;> exact h
    exact ⟨by simp [toPy, PyData.canLay0, h], by simp [toPy, PyData.depth]⟩
  | 0, .lst ds, h => h.elim
  | 0, .tup ds, h => h.elim
  | n + 1, .lst ds, h => by
    have h : ∀ d ∈ ds, Fine n d := h
    simp only [toPy, PyData.canLay0, PyData.depth, toPys_map]
    refine ⟨canLayAll_of fun e he => ?_, ?_⟩
    · obtain ⟨d, hd, rfl⟩ := List.mem_map.mp he
      exact (Fine.py (h d hd)).1
    · have := depthAll_of (n := n) (ds := ds.map toPy) fun e he => by
        obtain ⟨d, hd, rfl⟩ := List.mem_map.mp he
        exact (Fine.py (h d hd)).2
      omega
  | n + 1, .tup ds, h => by
    have h : ∀ d ∈ ds, Fine n d := h
    simp only [toPy, PyData.canLay0, PyData.depth, toPys_map]
    refine ⟨canLayAll_of fun e he => ?_, ?_⟩
    · obtain ⟨d, hd, rfl⟩ := List.mem_map.mp he
      exact (Fine.py (h d hd)).1
    · have := depthAll_of (n := n) (ds := ds.map toPy) fun e he => by
        obtain ⟨d, hd, rfl⟩ := List.mem_map.mp he
        exact (Fine.py (h d hd)).2
      omega
  | 0, .ty _, h => h.elim
  | 0, .adr _, h => h.elim
  | 0, .rng _ _, h => h.elim
  | 0, .obj _ _, h => h.elim
  | 0, .dic _, h => h.elim
  | n + 1, .ty _, h => h.elim
  | n + 1, .adr _, h => h.elim
  | n + 1, .rng _ _, h => h.elim
  | n + 1, .obj _ _, h => h.elim
  | n + 1, .dic _, h => h.elim
theorem Fine.shaped {n : Nat} {d : D} (h : Fine n d) (hn : n ≤ 64) : SeqAt.shaped (toPy d) = true := by
  obtain ⟨h1, h2⟩ := h.py
  show ((toPy d).canLay0 && decide ((toPy d).depth ≤ 64)) = true
  rw [h1]
  exact decide_eq_true (by omega)
theorem dpAll_of {K : PySem.W.Frag} {H : Hp} : ∀ {xs : List V} {ds : List D}, xs.length = ds.length → (∀ (i : Nat) v d, xs[i]? = some v → ds[i]? = some d → Dp K H v (toPy d)) → DpAll K H xs (toPys ds)
  | [], [], _, _ => by simp only [toPys]; exact .nil
  | [], _ :: _, h, _ => by simp at h
  | _ :: _, [], h, _ => by simp at h
  | v :: xs, d :: ds, h, k => by
    simp only [toPys]
    exact .cons (k 0 v d rfl rfl) (dpAll_of (by simpa using h) fun i v d a b => k (i + 1) v d (by simpa using a) (by simpa using b))
theorem DR.dp {K : PySem.W.Frag} {H : Hp} {v : V} {d : D} (h : DR K H v d) : ∀ {n : Nat}, Fine n d → Dp K H v (toPy d) := by
  induction h with
  | non => intro n _; simp only [toPy]; exact .non
  | bl b => intro n _; simp only [toPy]; exact .bl b
  | int i => intro n _; simp only [toPy]; exact .int i
  | str x => intro n _; simp only [toPy]; exact .str x
  | ty _ => intro n h; cases n <;> exact h.elim
  | adr _ => intro n h; cases n <;> exact h.elim
  | rng _ => intro n h; cases n <;> exact h.elim
  | obj _ _ _ => intro n h; cases n <;> exact h.elim
  | dic _ _ _ => intro n h; cases n <;> exact h.elim
  | lst h1 h2 _ ih =>
    intro n h
    cases n with
    | zero => exact h.elim
    | succ n =>
      simp only [toPy]
      exact .lst h1 (dpAll_of h2 fun i v d a b => ih i v d a b (show Fine n d from h d (List.mem_of_getElem? b)))
  | tup h1 h2 _ ih =>
    intro n h
    cases n with
    | zero => exact h.elim
    | succ n =>
      simp only [toPy]
      exact .tup h1 (dpAll_of h2 fun i v d a b => ih i v d a b (show Fine n d from h d (List.mem_of_getElem? b)))
/-- Python's == of trees -/
def D.eqv (a b : D) : Bool := PyData.eqv (toPy a) (toPy b)
theorem eqvAll_refl {ds : List PyData} (h : ∀ d ∈ ds, PyData.eqv d d = true) : PyData.eqvAll ds ds = true := by
  induction ds with
  | nil => simp [PyData.eqvAll]
  | cons d ds ih =>
    simp only [PyData.eqvAll, Bool.and_eq_true]
    exact ⟨h d List.mem_cons_self, ih fun e he => h e (List.mem_cons_of_mem _ he)⟩
theorem Fine.eqv : ∀ {n : Nat} {d : D}, Fine n d → d.eqv d = true
  | n, .non, _ => by simp [D.eqv, toPy, PyData.eqv]
  | n, .bl _, _ => by simp [D.eqv, toPy, PyData.eqv]
  | n, .int _, _ => by simp [D.eqv, toPy, PyData.eqv]
  | n, .str x, h => by simp [D.eqv, toPy, PyData.eqv]
  | 0, .lst ds, h => h.elim
  | 0, .tup ds, h => h.elim
  | n + 1, .lst ds, h => by
    have h : ∀ d ∈ ds, Fine n d := h
    simp only [D.eqv, toPy, PyData.eqv, toPys_map]
    refine eqvAll_refl fun e he => ?_
    obtain ⟨d, hd, rfl⟩ := List.mem_map.mp he
    exact Fine.eqv (h d hd)
  | n + 1, .tup ds, h => by
    have h : ∀ d ∈ ds, Fine n d := h
    simp only [D.eqv, toPy, PyData.eqv, toPys_map]
    refine eqvAll_refl fun e he => ?_
    obtain ⟨d, hd, rfl⟩ := List.mem_map.mp he
    exact Fine.eqv (h d hd)
  | 0, .ty _, h => h.elim
  | 0, .adr _, h => h.elim
  | 0, .rng _ _, h => h.elim
  | 0, .obj _ _, h => h.elim
  | 0, .dic _, h => h.elim
  | n + 1, .ty _, h => h.elim
  | n + 1, .adr _, h => h.elim
  | n + 1, .rng _ _, h => h.elim
  | n + 1, .obj _ _, h => h.elim
  | n + 1, .dic _, h => h.elim

/-! ### flat values, compared -/
/-- Python's == of flat values -/
def D.eqf (a b : D) : Bool := eqV a.toV b.toV
def inD (x : D) (ds : List D) : Bool := inV x.toV (ds.map D.toV)

/-! ### named rules for the built-ins -/
section
variable {X : Cx}
def rLenD (K : PySem.W.Frag) : List V → Hp → VK → Prop := fun xs H Q => ∃ p ys, xs = [.ref p] ∧ (SqL K H p ys ∨ SqT K H p ys) ∧ Q (.int ys.length) H
theorem call_lenL : CallR X (.builtin "len") (rLenD X.K) := call_len_seq
def rAbsD : List V → Hp → VK → Prop := fun xs H Q => ∃ i, xs = [.int i] ∧ Q (.int (if i < 0 then -i else i)) H
theorem call_absD : CallR X (.builtin "abs") rAbsD := call_abs
def rMax2D : List V → Hp → VK → Prop := fun xs H Q => ∃ i j, xs = [.int i, .int j] ∧ Q (.int (if j > i then j else i)) H
theorem call_max2D (hc : X.calm = true) : CallR X (.builtin "max") rMax2D := call_max2 hc
def rMin2D : List V → Hp → VK → Prop := fun xs H Q => ∃ i j, xs = [.int i, .int j] ∧ Q (.int (if j < i then j else i)) H
theorem call_min2D (hc : X.calm = true) : CallR X (.builtin "min") rMin2D := call_min2 hc
def rInt1D : List V → Hp → VK → Prop := fun xs H Q => (∃ i, xs = [.int i] ∧ Q (.int i) H) ∨ ∃ k, xs = [.bl k] ∧ Q (.int (if k then 1 else 0)) H
theorem call_int1D : CallR X (.type "int") rInt1D := call_int1
def rListOfD (K : PySem.W.Frag) : List V → Hp → VK → Prop := fun xs H Q => ∃ p ys, xs = [.ref p] ∧ (SqL K H p ys ∨ SqT K H p ys) ∧ ∀ l, H l = none → Q (.ref l) (upd H l (.lst ys))
def rListOfC (K : PySem.W.Frag) : List V → Hp → VK → Prop := rListOfD K
theorem call_listD : CallR X (.type "list") (rListOfD X.K) := call_list_of
theorem call_listC : CallR X (.type "list") (rListOfC X.K) := call_list_of
def rTupOfD (K : PySem.W.Frag) : List V → Hp → VK → Prop := fun xs H Q => ∃ p ys, xs = [.ref p] ∧ ((SqL K H p ys ∧ ∀ l, H l = none → Q (.ref l) (upd H l (.tup ys))) ∨ (SqT K H p ys ∧ Q (.ref p) H))
theorem call_tupD : CallR X (.type "tuple") (rTupOfD X.K) := call_tuple_of
/-- == and != of plain data -/
def rEqT (K : PySem.W.Frag) : R2 := rEqD K
def rNeT (K : PySem.W.Frag) : R2 := rNeD K
theorem op_eqT (hu : X.A.units + 64 < cLine) : OpR X (compareOp .Eq) (rEqT X.K) := op_eqD hu
theorem op_neT (hu : X.A.units + 64 < cLine) : OpR X (compareOp .NotEq) (rNeT X.K) := op_neD hu
def rIsNon : R2 := fun x y H Q => y = .non ∧ Q (.bl (decide (x = .non))) H
def rNotNon : R2 := fun x y H Q => y = .non ∧ Q (.bl (!decide (x = .non))) H
theorem op_isNon : OpR X (compareOp .Is) rIsNon := op_isN
theorem op_notNon : OpR X (compareOp .IsNot) rNotNon := op_notN
def rInRng (neg : Bool) : R2 := fun x y H Q => ∃ i a lo hi, x = V.int i ∧ y = V.ref a ∧ H a = some (.rng lo hi) ∧ Q (.bl (if neg then !decide (lo ≤ i ∧ i < hi) else decide (lo ≤ i ∧ i < hi))) H
theorem op_inRng : OpR X (compareOp .In) (rInRng false) := op_in_rng
theorem op_notInRng : OpR X (compareOp .NotIn) (rInRng true) := by
  intro pins s σ H x y v u Q I rx ry h
  obtain ⟨i, a, lo, hi, rfl, rfl, ha, q⟩ := h
  obtain ⟨k, rfl⟩ := rx
  obtain rfl : u = Value.ref a := ry
  obtain ⟨t1, t2, t3, ho⟩ := I.hok a _ ha
  show wpAny _ _ (do return Value.bool (!(← contains (Value.ref a) (Value.int i k)))) _ _ s
  refine wpAny_bind (wpAny_contains_slot (T := "range") ⟨_, ho, rfl⟩ F.slot_range_contains (call_meets F.slot_range_contains ⟨_, ho, rfl⟩ F.entry_range_contains (F.args_range_contains_2 _ _) (q_contains a lo hi i t1 t2 t3 k)
    ⟨ho, wpAny_truthy_bool (wpAny_pure ⟨.bl _, H, I, rfl, ?_⟩)⟩))
  rw [place1]
  exact q
def rRange1 : List V → Hp → VK → Prop := fun vs H Q => ∃ j, vs = [V.int j] ∧ ∀ p, H p = none → Q (.ref p) (upd H p (.rng 0 j))
theorem call_range1v : CallR X (.type "range") rRange1 := by
  intro pins s σ H vs us Q I r h
  obtain ⟨j, rfl, q⟩ := h
  obtain ⟨u1, rfl, t, rfl⟩ := vals1 r
  refine call_range_1 ⟨.ref s.heap.objs.size, upd H s.heap.objs.size (.rng 0 j), I.laid (t' := s.toks + 1 + 1) (fun b o e => Heap.get?_push_of_some _ e) (Nat.le_refl _) ?_, rfl, q _ (I.hok.fresh (Nat.le_refl _))⟩
  exact ⟨s.toks, t, s.toks + 1, Heap.get?_push_size _ rfl⟩
end
end DL

namespace DL
open PySem L2
section
variable {M : Mx} {g g1 : G} {Q : QE} {w x y : W} {d e : D} {k : Nat} {ds es : List D} {QT : Bool → G → Prop}

/-! ### comparisons -/
theorem opD_eqI {i j : Int} (q : Q (.d (.bl (decide (i = j)))) g) : opD M rEq (.d (.int i)) (.d (.int j)) g Q := fun Hi H θ σ ft e v u rv ru R k => by
  cases DR.as_int rv
  cases DR.as_int ru
  refine ⟨rfl, ?_⟩
  rw [show decide (V.int i = V.int j) = decide (i = j) by simp]
  exact k.now ft (w := .d (.bl (decide (i = j)))) (.bl _) q
theorem opD_neI {i j : Int} (q : Q (.d (.bl (!decide (i = j)))) g) : opD M rNe (.d (.int i)) (.d (.int j)) g Q := fun Hi H θ σ ft e v u rv ru R k => by
  cases DR.as_int rv
  cases DR.as_int ru
  refine ⟨rfl, ?_⟩
  rw [show decide (V.int i = V.int j) = decide (i = j) by simp]
  exact k.now ft (w := .d (.bl (!decide (i = j)))) (.bl _) q
theorem opD_eqS {i j : Str} (q : Q (.d (.bl (decide (i = j)))) g) : opD M rEq (.d (.str i)) (.d (.str j)) g Q := fun Hi H θ σ ft e v u rv ru R k => by
  cases DR.as_str rv
  cases DR.as_str ru
  refine ⟨rfl, ?_⟩
  rw [show decide (V.str i = V.str j) = decide (i = j) by simp]
  exact k.now ft (w := .d (.bl (decide (i = j)))) (.bl _) q
theorem opD_neS {i j : Str} (q : Q (.d (.bl (!decide (i = j)))) g) : opD M rNe (.d (.str i)) (.d (.str j)) g Q := fun Hi H θ σ ft e v u rv ru R k => by
  cases DR.as_str rv
  cases DR.as_str ru
  refine ⟨rfl, ?_⟩
  rw [show decide (V.str i = V.str j) = decide (i = j) by simp]
  exact k.now ft (w := .d (.bl (!decide (i = j)))) (.bl _) q
theorem opD_eqB {i j : Bool} (q : Q (.d (.bl (decide (i = j)))) g) : opD M rEq (.d (.bl i)) (.d (.bl j)) g Q := fun Hi H θ σ ft e v u rv ru R k => by
  cases DR.as_bl rv
  cases DR.as_bl ru
  refine ⟨rfl, ?_⟩
  rw [show decide (V.bl i = V.bl j) = decide (i = j) by simp]
  exact k.now ft (w := .d (.bl (decide (i = j)))) (.bl _) q
theorem opD_neB {i j : Bool} (q : Q (.d (.bl (!decide (i = j)))) g) : opD M rNe (.d (.bl i)) (.d (.bl j)) g Q := fun Hi H θ σ ft e v u rv ru R k => by
  cases DR.as_bl rv
  cases DR.as_bl ru
  refine ⟨rfl, ?_⟩
  rw [show decide (V.bl i = V.bl j) = decide (i = j) by simp]
  exact k.now ft (w := .d (.bl (!decide (i = j)))) (.bl _) q
/-- flat values of any kinds that == takes (None, and a scalar) -/
theorem opD_eqV (hx : d.flat = true) (hy : e.flat = true) (hs : scal d.toV e.toV = true) (q : Q (.d (.bl (decide (d.toV = e.toV)))) g) : opD M rEq (.d d) (.d e) g Q := fun Hi H θ σ ft z v u rv ru R k => by
  obtain ⟨rfl, _⟩ := DR.flat rv hx
  obtain ⟨rfl, _⟩ := DR.flat ru hy
  exact ⟨hs, k.now ft (w := .d (.bl (decide (d.toV = e.toV)))) (.bl _) q⟩
theorem opD_neV (hx : d.flat = true) (hy : e.flat = true) (hs : scal d.toV e.toV = true) (q : Q (.d (.bl (!decide (d.toV = e.toV)))) g) : opD M rNe (.d d) (.d e) g Q := fun Hi H θ σ ft z v u rv ru R k => by
  obtain ⟨rfl, _⟩ := DR.flat rv hx
  obtain ⟨rfl, _⟩ := DR.flat ru hy
  exact ⟨hs, k.now ft (w := .d (.bl (!decide (d.toV = e.toV)))) (.bl _) q⟩
/-- trees, cells too -/
theorem opD_eqT {n m : Nat} (hx : Val g x d) (hy : Val g y e) (fd : Fine n d) (fe : Fine m e) (hn : n ≤ 64) (hm : m ≤ 64) (q : Q (.d (.bl (d.eqv e))) g) : opD M (rEqT M.K) x y g Q := fun Hi H θ σ ft z v u rv ru R k =>
  ⟨toPy d, toPy e, (hx _ Hi H θ σ ft v rv).dp fd, (hy _ Hi H θ σ ft u ru).dp fe, fd.shaped hn, fe.shaped hm, k.now ft (w := .d (.bl (d.eqv e))) (.bl _) q⟩
theorem opD_neT {n m : Nat} (hx : Val g x d) (hy : Val g y e) (fd : Fine n d) (fe : Fine m e) (hn : n ≤ 64) (hm : m ≤ 64) (q : Q (.d (.bl (!d.eqv e))) g) : opD M (rNeT M.K) x y g Q := fun Hi H θ σ ft z v u rv ru R k =>
  ⟨toPy d, toPy e, (hx _ Hi H θ σ ft v rv).dp fd, (hy _ Hi H θ σ ft u ru).dp fe, fd.shaped hn, fe.shaped hm, k.now ft (w := .d (.bl (!d.eqv e))) (.bl _) q⟩
theorem opD_isNon (q : Q (.d (.bl w.isNon)) g) : opD M rIsNon w (.d .non) g Q := fun Hi H θ σ ft e v u rv ru R k =>
  ⟨DR.as_non ru, by rw [rv.isn]; exact k.now ft (w := .d (.bl w.isNon)) (.bl _) q⟩
theorem opD_notNon (q : Q (.d (.bl (!w.isNon))) g) : opD M rNotNon w (.d .non) g Q := fun Hi H θ σ ft e v u rv ru R k =>
  ⟨DR.as_non ru, by rw [rv.isn]; exact k.now ft (w := .d (.bl (!w.isNon))) (.bl _) q⟩
/-- in, not in, over flat items -/
theorem opD_inL {neg : Bool} (hx : d.flat = true) (hy : Val g y (.lst ds)) (hf : ds.all D.flat = true) (q : Q (.d (.bl (if neg then !inD d ds else inD d ds))) g) : opD M (rIn M.K neg) (.d d) y g Q := fun Hi H θ σ ft z v u rv ru R k => by
  obtain ⟨rfl, f1⟩ := DR.flat rv hx
  obtain ⟨a, xs, rfl, h1, h2⟩ := DR.as_lst (hy _ Hi H θ σ ft u ru)
  obtain ⟨rfl, f2⟩ := h2.flats hf
  exact ⟨a, _, rfl, .inl h1, f1, f2, k.now ft (w := .d (.bl (if neg then !inD d ds else inD d ds))) (.bl _) q⟩
theorem opD_inT {neg : Bool} (hx : d.flat = true) (hf : ds.all D.flat = true) (q : Q (.d (.bl (if neg then !inD d ds else inD d ds))) g) : opD M (rIn M.K neg) (.d d) (.d (.tup ds)) g Q := fun Hi H θ σ ft z v u rv ru R k => by
  obtain ⟨rfl, f1⟩ := DR.flat rv hx
  obtain ⟨a, xs, rfl, h1, h2⟩ := DR.as_tup (DR.mono ru ft.mf.sub)
  obtain ⟨rfl, f2⟩ := h2.flats hf
  exact ⟨a, _, rfl, .inr h1, f1, f2, k.now ft (w := .d (.bl (if neg then !inD d ds else inD d ds))) (.bl _) q⟩
theorem opD_inRng {neg : Bool} {i lo hi : Int} (q : Q (.d (.bl (if neg then !decide (lo ≤ i ∧ i < hi) else decide (lo ≤ i ∧ i < hi)))) g) : opD M (rInRng neg) (.d (.int i)) (.d (.rng lo hi)) g Q := fun Hi H θ σ ft z v u rv ru R k => by
  cases DR.as_int rv
  obtain ⟨a, rfl, h⟩ := DR.as_rng (DR.mono ru ft.mf.sub)
  exact ⟨i, a, lo, hi, rfl, rfl, h, k.now ft (w := .d (.bl (if neg then !decide (lo ≤ i ∧ i < hi) else decide (lo ≤ i ∧ i < hi)))) (.bl _) q⟩

/-! ### list * int, tuple + tuple, text + text -/
def rRepD : R2 := rMulA
def rRepC : R2 := rMulA
theorem opD_rep {n : Int} (hx : x = .c k) (h0 : g.mu[k]? = some (.pl ds)) (h1 : -(2 ^ 63) ≤ n) (h2 : n < 2 ^ 63) (hz : ds.length * n.toNat ≤ 16777216) (q : Q (.d (.lst (List.replicate n.toNat ds).flatten)) g) : opD M rMulA x (.d (.int n)) g Q := fun Hi H θ σ ft z v u rv ru R kk => by
  subst hx
  obtain ⟨a, e1, rfl⟩ := rv
  obtain ⟨_, xs, e2, e3⟩ := ft.mf.cell k a _ e1 h0
  cases DR.as_int ru
  exact .inr ⟨a, n, xs, rfl, rfl, e2, h1, h2, by rw [e3.1, sizeLine_eq]; exact hz, fun p hp => kk.newL ft hp (e3.flat _) q⟩
theorem opD_repC {n : Int} (hx : x = .c k) (h0 : g.mu[k]? = some (.pl ds)) (h1 : -(2 ^ 63) ≤ n) (h2 : n < 2 ^ 63) (hz : ds.length * n.toNat ≤ 16777216) (q : Q (.c g.mu.length) ⟨g.rho, g.mu ++ [.pl (List.replicate n.toNat ds).flatten]⟩) : opD M rRepC x (.d (.int n)) g Q := fun Hi H θ σ ft z v u rv ru R kk => by
  subst hx
  obtain ⟨a, e1, rfl⟩ := rv
  obtain ⟨_, xs, e2, e3⟩ := ft.mf.cell k a _ e1 h0
  cases DR.as_int ru
  exact .inr ⟨a, n, xs, rfl, rfl, e2, h1, h2, by rw [e3.1, sizeLine_eq]; exact hz, fun p hp => kk.newPl ft hp (e3.flat _) q⟩
theorem opD_addT (hz : ds.length + es.length ≤ 16777216) (q : Q (.d (.tup (ds ++ es))) g) : opD M (rAddA M.K) (.d (.tup ds)) (.d (.tup es)) g Q := fun Hi H θ σ ft z v u rv ru R k => by
  obtain ⟨a, xs, rfl, h1, h2⟩ := DR.as_tup rv
  obtain ⟨b, ys, rfl, h3, h4⟩ := DR.as_tup ru
  refine .inr (.inr (.inl ⟨a, b, xs, ys, rfl, rfl, ft.mf.sub.sqT h1, ft.mf.sub.sqT h3, by rw [h2.1, h4.1, sizeLine_eq]; exact hz, fun e => ?_, fun _ e => ?_, fun _ _ p hp => k.newT ft hp (h2.append h4) q⟩))
  · have e0 : ds = [] := List.eq_nil_of_length_eq_zero (by rw [← h2.1, e]; rfl)
    rw [e0, List.nil_append] at q
    exact k.now ft (w := .d (.tup es)) ru q
  · have e0 : es = [] := List.eq_nil_of_length_eq_zero (by rw [← h4.1, e]; rfl)
    rw [e0, List.append_nil] at q
    exact k.now ft (w := .d (.tup ds)) rv q
theorem opD_addS {i j : Str} (hz : i.length + j.length ≤ 16777216) (q : Q (.d (.str (i ++ j))) g) : opD M (rAddA M.K) (.d (.str i)) (.d (.str j)) g Q := fun Hi H θ σ ft z v u rv ru R k =>
  .inr (.inr (.inr ⟨i, j, DR.as_str rv, DR.as_str ru, by rw [sizeLine_eq]; exact hz, k.now ft (w := .d (.str (i ++ j))) (.str _) q⟩))
/-- list + list, cells too: read, the new one a tree | a cell -/
def rAddC (K : PySem.W.Frag) : R2 := rAddA K
theorem Val.items {K : PySem.W.Frag} {Hi H : Hp} {θ : List Addr} {σ : L2.St} {v : V} (hx : x = .d (.lst ds) ∨ ∃ k, x = .c k ∧ g.mu[k]? = some (.pl ds)) (f : Fit K Hi H θ σ g) (r : WR K Hi θ v x) : ∃ a xs, v = .ref a ∧ SqL K H a xs ∧ DRs K Hi xs ds := by
  rcases hx with rfl | ⟨k, rfl, h⟩
  · obtain ⟨a, xs, h1, h2, h3⟩ := DR.as_lst r
    exact ⟨a, xs, h1, f.mf.sub.sqL h2, h3⟩
  · obtain ⟨a, e1, rfl⟩ := r
    obtain ⟨_, xs, e2, e3⟩ := f.mf.cell k a _ e1 h
    exact ⟨a, xs, rfl, .of e2, e3⟩
/-- a list whose items are known: a tree, or a cell -/
def Its (g : G) (x : W) (ds : List D) : Prop := x = .d (.lst ds) ∨ ∃ k, x = .c k ∧ g.mu[k]? = some (.pl ds)
theorem Its.t : Its g (.d (.lst ds)) ds := .inl rfl
theorem Its.c (h : g.mu[k]? = some (.pl ds)) : Its g (.c k) ds := .inr ⟨k, rfl, h⟩
theorem Its.val (h : Its g x ds) : Val g x (.lst ds) := by
  rcases h with rfl | ⟨k, rfl, h⟩
  · exact .t
  · exact .pl h
theorem opD_cat (hx : Its g x ds) (hy : Its g y es) (hz : ds.length + es.length ≤ 16777216) (q : Q (.d (.lst (ds ++ es))) g) : opD M (rAddA M.K) x y g Q := fun Hi H θ σ ft z v u rv ru R k => by
  obtain ⟨a, xs, rfl, h1, h2⟩ := Val.items hx ft rv
  obtain ⟨b, ys, rfl, h3, h4⟩ := Val.items hy ft ru
  exact .inr (.inl ⟨a, b, xs, ys, rfl, rfl, h1, h3, by rw [h2.1, h4.1, sizeLine_eq]; exact hz, fun p hp => k.newL ft hp (h2.append h4) q⟩)
theorem opD_catC (hx : Its g x ds) (hy : Its g y es) (hz : ds.length + es.length ≤ 16777216) (q : Q (.c g.mu.length) ⟨g.rho, g.mu ++ [.pl (ds ++ es)]⟩) : opD M (rAddC M.K) x y g Q := fun Hi H θ σ ft z v u rv ru R k => by
  obtain ⟨a, xs, rfl, h1, h2⟩ := Val.items hx ft rv
  obtain ⟨b, ys, rfl, h3, h4⟩ := Val.items hy ft ru
  exact .inr (.inl ⟨a, b, xs, ys, rfl, rfl, h1, h3, by rw [h2.1, h4.1, sizeLine_eq]; exact hz, fun p hp => k.newPl ft hp (h2.append h4) q⟩)

/-! ### slices -/
def cutD (ds : List D) (lo hi : Option Int) : List D := (ds.drop (HT.sIx ds.length 0 lo)).take (HT.sIx ds.length ds.length hi - HT.sIx ds.length 0 lo)
def poD (M : Mx) (t : TO) (g : G) (Q : Option Int → G → Prop) : Prop := ∀ Hi H θ σ, Fit M.K Hi H θ σ g → XOk M Hi H θ → ∀ R : Option Int → Hp → Prop, (∀ o g' Hi' H' θ', Q o g' → Fit M.K Hi' H' θ' σ g' → Go Hi H θ Hi' H' θ' → R o H') → t σ H R
theorem po_no {QO : Option Int → G → Prop} (q : QO none g) : poD M tNoPart g QO := fun Hi H θ σ f e R k => k none g Hi H θ q f (Go.refl f.mf)
theorem po_pt {te : TE} {QO : Option Int → G → Prop} (h : wpE M te g fun w g1 => ∃ i, w = .d (.int i) ∧ QO (some i) g1) : poD M (tPart te) g QO := fun Hi H θ σ f e R k =>
  h Hi H θ σ f e _ fun w g1 v Hi1 H1 θ1 hx f1 rx o1 => by
    obtain ⟨i, rfl, q⟩ := hx
    exact ⟨i, DR.as_int rx, k _ g1 Hi1 H1 θ1 q f1 o1⟩
def slD (M : Mx) (r : V → Option Int → Option Int → Hp → VK → Prop) (x : W) (lo hi : Option Int) (g : G) (Q : QE) : Prop := ∀ Hi H θ σ, Fit M.K Hi H θ σ g → XOk M Hi H θ → ∀ v, WR M.K Hi θ v x → ∀ R : VK, PostE M Hi H θ σ Q R → r v lo hi H R
theorem wpE_sl {r : V → Option Int → Option Int → Hp → VK → Prop} {te : TE} {tl th : TO} (h : wpE M te g fun x g1 => poD M tl g1 fun lo g2 => poD M th g2 fun hi g3 => slD M r x lo hi g3 Q) : wpE M (tSl r te tl th) g Q := fun Hi H θ σ f e R k =>
  h Hi H θ σ f e _ fun x g1 v Hi1 H1 θ1 hx f1 rx o1 => hx Hi1 H1 θ1 σ f1 (e.go o1) _ fun lo g2 Hi2 H2 θ2 h2 f2 o2 => h2 Hi2 H2 θ2 σ f2 ((e.go o1).go o2) _ fun hi g3 Hi3 H3 θ3 h3 f3 o3 =>
    h3 Hi3 H3 θ3 σ f3 (((e.go o1).go o2).go o3) v ((rx.go o2).go o3) R (k.go ((o1.trans o2).trans o3))
def rSlLC (K : PySem.W.Frag) : V → Option Int → Option Int → Hp → VK → Prop := rSlL K
theorem cut_drs {K : PySem.W.Frag} {H : Hp} {xs : List V} (h : DRs K H xs ds) (lo hi : Option Int) : DRs K H (cutV xs lo hi) (cutD ds lo hi) := by
  unfold cutV cutD
  rw [h.1]
  exact (h.drop _).take _
theorem slD_L {lo hi : Option Int} (hx : Its g x ds) (q : Q (.d (.lst (cutD ds lo hi))) g) : slD M (rSlL M.K) x lo hi g Q := fun Hi H θ σ f e v rv R k => by
  obtain ⟨a, xs, rfl, h1, h2⟩ := Val.items hx f rv
  exact ⟨a, xs, rfl, h1, fun p hp => k.newL f hp (cut_drs h2 lo hi) q⟩
theorem slD_LC {lo hi : Option Int} (hx : Its g x ds) (q : Q (.c g.mu.length) ⟨g.rho, g.mu ++ [.pl (cutD ds lo hi)]⟩) : slD M (rSlLC M.K) x lo hi g Q := fun Hi H θ σ f e v rv R k => by
  obtain ⟨a, xs, rfl, h1, h2⟩ := Val.items hx f rv
  exact ⟨a, xs, rfl, h1, fun p hp => k.newPl f hp (cut_drs h2 lo hi) q⟩
theorem slD_T {lo hi : Option Int} (q : Q (.d (.tup (cutD ds lo hi))) g) : slD M (rSlA M.K) (.d (.tup ds)) lo hi g Q := fun Hi H θ σ f e v rv R k => by
  obtain ⟨a, xs, rfl, h1, h2⟩ := DR.as_tup rv
  refine ⟨a, xs, rfl, f.mf.sub.sqT h1, fun hh => ?_, fun _ p hp => k.newT f hp (cut_drs h2 lo hi) q⟩
  have e0 : cutD ds lo hi = ds := by
    unfold cutD
    rw [← h2.1, hh.1, hh.2, h2.1]
    simp
  rw [e0] at q
  exact k.now f (w := .d (.tup ds)) rv q

/-! ### built-ins -/
theorem cbD_lenL (hx : Val g x (.lst ds)) (q : Q (.d (.int (ds.length : Int))) g) : cbD M (rLenD M.K) [x] g Q := fun Hi H θ σ f e vs rv R k => by
  obtain ⟨v, ys, rfl, r1, r2⟩ := rv.uncons
  cases r2.unnil
  obtain ⟨a, xs, rfl, h1, h2⟩ := DR.as_lst (hx _ Hi H θ σ f v r1)
  exact ⟨a, xs, rfl, .inl h1, by rw [h2.1]; exact k.now f (w := .d (.int (ds.length : Int))) (.int _) q⟩
theorem cbD_lenM {ws : List W} (h0 : g.mu[k]? = some (.ml ws)) (q : Q (.d (.int (ws.length : Int))) g) : cbD M (rLenD M.K) [.c k] g Q := fun Hi H θ σ f e vs rv R kk => by
  obtain ⟨v, ys, rfl, r1, r2⟩ := rv.uncons
  cases r2.unnil
  obtain ⟨a, e1, rfl⟩ := r1
  obtain ⟨_, xs, e2, e3⟩ := f.mf.cell k a _ e1 h0
  exact ⟨a, xs, rfl, .inl (.of e2), by rw [e3.1]; exact kk.now f (w := .d (.int (ws.length : Int))) (.int _) q⟩
theorem cbD_lenT (q : Q (.d (.int (ds.length : Int))) g) : cbD M (rLenD M.K) [.d (.tup ds)] g Q := fun Hi H θ σ f e vs rv R k => by
  obtain ⟨v, ys, rfl, r1, r2⟩ := rv.uncons
  cases r2.unnil
  obtain ⟨a, xs, rfl, h1, h2⟩ := DR.as_tup (DR.mono r1 f.mf.sub)
  exact ⟨a, xs, rfl, .inr h1, by rw [h2.1]; exact k.now f (w := .d (.int (ds.length : Int))) (.int _) q⟩
theorem cbD_abs {i : Int} (q : Q (.d (.int (if i < 0 then -i else i))) g) : cbD M rAbsD [.d (.int i)] g Q := fun Hi H θ σ f e vs rv R k => by
  obtain ⟨v, ys, rfl, r1, r2⟩ := rv.uncons
  cases r2.unnil
  cases DR.as_int r1
  exact ⟨i, rfl, k.now f (w := .d (.int (if i < 0 then -i else i))) (.int _) q⟩
theorem cbD_max2 {i j : Int} (q : Q (.d (.int (max i j))) g) : cbD M rMax2D [.d (.int i), .d (.int j)] g Q := fun Hi H θ σ f e vs rv R k => by
  obtain ⟨v, ys, rfl, r1, r2⟩ := rv.uncons
  obtain ⟨u, zs, rfl, r3, r4⟩ := r2.uncons
  cases r4.unnil
  cases DR.as_int r1
  cases DR.as_int r3
  refine ⟨i, j, rfl, ?_⟩
  rw [show (if j > i then j else i) = max i j by omega]
  exact k.now f (w := .d (.int (max i j))) (.int _) q
theorem cbD_min2 {i j : Int} (q : Q (.d (.int (min i j))) g) : cbD M rMin2D [.d (.int i), .d (.int j)] g Q := fun Hi H θ σ f e vs rv R k => by
  obtain ⟨v, ys, rfl, r1, r2⟩ := rv.uncons
  obtain ⟨u, zs, rfl, r3, r4⟩ := r2.uncons
  cases r4.unnil
  cases DR.as_int r1
  cases DR.as_int r3
  refine ⟨i, j, rfl, ?_⟩
  rw [show (if j < i then j else i) = min i j by omega]
  exact k.now f (w := .d (.int (min i j))) (.int _) q
theorem cbD_intI {i : Int} (q : Q (.d (.int i)) g) : cbD M rInt1D [.d (.int i)] g Q := fun Hi H θ σ f e vs rv R k => by
  obtain ⟨v, ys, rfl, r1, r2⟩ := rv.uncons
  cases r2.unnil
  cases DR.as_int r1
  exact .inl ⟨i, rfl, k.now f (w := .d (.int i)) (.int _) q⟩
theorem cbD_intB {i : Bool} (q : Q (.d (.int (if i = true then 1 else 0))) g) : cbD M rInt1D [.d (.bl i)] g Q := fun Hi H θ σ f e vs rv R k => by
  obtain ⟨v, ys, rfl, r1, r2⟩ := rv.uncons
  cases r2.unnil
  cases DR.as_bl r1
  exact .inr ⟨i, rfl, k.now f (w := .d (.int (if i = true then 1 else 0))) (.int _) q⟩
theorem cbD_list (hx : Its g x ds) (q : Q (.d (.lst ds)) g) : cbD M (rListOfD M.K) [x] g Q := fun Hi H θ σ f e vs rv R k => by
  obtain ⟨v, ys, rfl, r1, r2⟩ := rv.uncons
  cases r2.unnil
  obtain ⟨a, xs, rfl, h1, h2⟩ := Val.items hx f r1
  exact ⟨a, xs, rfl, .inl h1, fun p hp => k.newL f hp h2 q⟩
theorem cbD_listC (hx : Its g x ds) (q : Q (.c g.mu.length) ⟨g.rho, g.mu ++ [.pl ds]⟩) : cbD M (rListOfC M.K) [x] g Q := fun Hi H θ σ f e vs rv R k => by
  obtain ⟨v, ys, rfl, r1, r2⟩ := rv.uncons
  cases r2.unnil
  obtain ⟨a, xs, rfl, h1, h2⟩ := Val.items hx f r1
  exact ⟨a, xs, rfl, .inl h1, fun p hp => k.newPl f hp h2 q⟩
theorem cbD_listT (q : Q (.d (.lst ds)) g) : cbD M (rListOfD M.K) [.d (.tup ds)] g Q := fun Hi H θ σ f e vs rv R k => by
  obtain ⟨v, ys, rfl, r1, r2⟩ := rv.uncons
  cases r2.unnil
  obtain ⟨a, xs, rfl, h1, h2⟩ := DR.as_tup r1
  exact ⟨a, xs, rfl, .inr (f.mf.sub.sqT h1), fun p hp => k.newL f hp h2 q⟩
theorem cbD_listTC (q : Q (.c g.mu.length) ⟨g.rho, g.mu ++ [.pl ds]⟩) : cbD M (rListOfC M.K) [.d (.tup ds)] g Q := fun Hi H θ σ f e vs rv R k => by
  obtain ⟨v, ys, rfl, r1, r2⟩ := rv.uncons
  cases r2.unnil
  obtain ⟨a, xs, rfl, h1, h2⟩ := DR.as_tup r1
  exact ⟨a, xs, rfl, .inr (f.mf.sub.sqT h1), fun p hp => k.newPl f hp h2 q⟩
theorem cbD_tup (hx : Its g x ds) (q : Q (.d (.tup ds)) g) : cbD M (rTupOfD M.K) [x] g Q := fun Hi H θ σ f e vs rv R k => by
  obtain ⟨v, ys, rfl, r1, r2⟩ := rv.uncons
  cases r2.unnil
  obtain ⟨a, xs, rfl, h1, h2⟩ := Val.items hx f r1
  exact ⟨a, xs, rfl, .inl ⟨h1, fun p hp => k.newT f hp h2 q⟩⟩
theorem cbD_range1 {j : Int} (q : Q (.d (.rng 0 j)) g) : cbD M rRange1 [.d (.int j)] g Q := fun Hi H θ σ f e vs rv R k => by
  obtain ⟨v, ys, rfl, r1, r2⟩ := rv.uncons
  cases r2.unnil
  cases DR.as_int r1
  exact ⟨j, rfl, fun p hp => k.newI f hp (.rng upd_same) q⟩
theorem cbD_sum {ns : List Int} (hx : Its g x (ns.map D.int)) (q : Q (.d (.int ns.sum)) g) : cbD M (rSum M.K) [x] g Q := fun Hi H θ σ f e vs rv R k => by
  obtain ⟨v, ys, rfl, r1, r2⟩ := rv.uncons
  cases r2.unnil
  obtain ⟨a, xs, rfl, h1, h2⟩ := Val.items hx f r1
  cases h2.ints
  exact ⟨a, ns, rfl, h1, k.now f (w := .d (.int ns.sum)) (.int _) q⟩
theorem cbD_maxL {ns : List Int} (hx : Its g x (ns.map D.int)) (h0 : 0 < ns.length) (q : ∀ m, m ∈ ns → (∀ y ∈ ns, y ≤ m) → Q (.d (.int m)) g) : cbD M (rMax M.K) [x] g Q := fun Hi H θ σ f e vs rv R k => by
  obtain ⟨v, ys, rfl, r1, r2⟩ := rv.uncons
  cases r2.unnil
  obtain ⟨a, xs, rfl, h1, h2⟩ := Val.items hx f r1
  cases h2.ints
  exact ⟨a, ns, rfl, h1, h0, fun m hm hy => k.now f (w := .d (.int m)) (.int _) (q m hm hy)⟩
theorem cbD_minL {ns : List Int} (hx : Its g x (ns.map D.int)) (h0 : 0 < ns.length) (q : ∀ m, m ∈ ns → (∀ y ∈ ns, m ≤ y) → Q (.d (.int m)) g) : cbD M (rMin M.K) [x] g Q := fun Hi H θ σ f e vs rv R k => by
  obtain ⟨v, ys, rfl, r1, r2⟩ := rv.uncons
  cases r2.unnil
  obtain ⟨a, xs, rfl, h1, h2⟩ := Val.items hx f r1
  cases h2.ints
  exact ⟨a, ns, rfl, h1, h0, fun m hm hy => k.now f (w := .d (.int m)) (.int _) (q m hm hy)⟩
theorem cbD_sorted {ns : List Int} (hx : Its g x (ns.map D.int)) (q : ∀ ns' : List Int, ns'.Perm ns → ns'.Pairwise (· ≤ ·) → Q (.d (.lst (ns'.map D.int))) g) : cbD M (rSortedI M.K) [x] g Q := fun Hi H θ σ f e vs rv R k => by
  obtain ⟨v, ys, rfl, r1, r2⟩ := rv.uncons
  cases r2.unnil
  obtain ⟨a, xs, rfl, h1, h2⟩ := Val.items hx f r1
  cases h2.ints
  exact ⟨a, ns, rfl, h1, fun ns' p h3 h4 hp => k.newL f hp (.of_ints ns') (q ns' h3 h4)⟩
theorem cbD_any {bs : List Bool} (hx : Its g x (bs.map D.bl)) (q : Q (.d (.bl (bs.any id))) g) : cbD M (rAny M.K) [x] g Q := fun Hi H θ σ f e vs rv R k => by
  obtain ⟨v, ys, rfl, r1, r2⟩ := rv.uncons
  cases r2.unnil
  obtain ⟨a, xs, rfl, h1, h2⟩ := Val.items hx f r1
  cases h2.bls
  exact ⟨a, bs, rfl, h1, k.now f (w := .d (.bl (bs.any id))) (.bl _) q⟩
theorem cbD_all {bs : List Bool} (hx : Its g x (bs.map D.bl)) (q : Q (.d (.bl (bs.all id))) g) : cbD M (rAll M.K) [x] g Q := fun Hi H θ σ f e vs rv R k => by
  obtain ⟨v, ys, rfl, r1, r2⟩ := rv.uncons
  cases r2.unnil
  obtain ⟨a, xs, rfl, h1, h2⟩ := Val.items hx f r1
  cases h2.bls
  exact ⟨a, bs, rfl, h1, k.now f (w := .d (.bl (bs.all id))) (.bl _) q⟩
/-- isinstance against a built-in class -/
def D.tyn : D → String
  | .non => "NoneType"
  | .bl _ => "bool"
  | .int _ => "int"
  | .str _ => "str"
  | .lst _ => "list"
  | .tup _ => "tuple"
  | .dic _ => "dict"
  | _ => ""
theorem DR.tyx {K : PySem.W.Frag} {H : Hp} {v : V} (h : DR K H v d) (hd : d.tyn ≠ "") : TyX K H v (.type d.tyn) := by
  cases h with
  | non => exact .base .non
  | bl b => exact .base (.bl b)
  | int i => exact .base (.int i)
  | str s => exact .base (.str s)
  | lst h1 _ _ =>
    rcases h1 with (h | ⟨o, h⟩) | ⟨o, its, n, h1, h2, _⟩
    · exact .base (.lst h)
    · exact .base (.frz h)
    · exact .kList h1 h2
  | tup h1 _ _ =>
    rcases h1 with (h | ⟨o, h⟩) | ⟨o, its, n, h1, h2, _⟩
    · exact .base (.tup h)
    · exact .fTuple h
    · exact .kTuple h1 h2
  | dic h _ _ => exact .base (.dK h)
  | ty _ => exact absurd rfl hd
  | adr _ => exact absurd rfl hd
  | rng _ => exact absurd rfl hd
  | obj _ _ _ => exact absurd rfl hd
theorem cbD_isi {n : String} {b : Bool} (hx : Val g x d) (hd : d.tyn ≠ "") (hk : kitB d.tyn n = some b) (q : Q (.d (.bl b)) g) : cbD M (rIsi M.K) [x, .d (.ty n)] g Q := fun Hi H θ σ f e vs rv R k => by
  obtain ⟨v, ys, rfl, r1, r2⟩ := rv.uncons
  obtain ⟨u, zs, rfl, r3, r4⟩ := r2.uncons
  cases r4.unnil
  cases r3
  exact ⟨v, _, _, _, b, rfl, .ty n, (hx _ Hi H θ σ f v r1).tyx hd, kit_ty hk, k.now f (w := .d (.bl b)) (.bl _) q⟩

/-! ### methods of lists -/
theorem wpE_bm {r : V → List V → Hp → VK → Prop} {to : TE} {t : TA} (h : wpE M to g fun x g1 => (∃ ds, Val g1 x (.lst ds)) ∧ wpA M t g1 fun xs g2 => mtD M r x xs g2 Q) : wpE M (tBM M.K "list" r to t) g Q := fun Hi H θ σ f e R k =>
  h Hi H θ σ f e _ fun x g1 v Hi1 H1 θ1 hx f1 rx o1 => by
    obtain ⟨⟨ds, hv⟩, ha⟩ := hx
    obtain ⟨a, xs, rfl, h1, h2⟩ := DR.as_lst (hv _ Hi1 H1 θ1 σ f1 v rx)
    refine ⟨.inl ⟨rfl, xs, h1⟩, ha Hi1 H1 θ1 σ f1 (e.go o1) _ fun us g2 vs Hi2 H2 θ2 h3 f2 r2 o2 => ?_⟩
    exact h3 Hi2 H2 θ2 σ f2 ((e.go o1).go o2) _ vs (rx.go o2) r2 R (k.go (o1.trans o2))
theorem wpE_bm0 {r : V → List V → Hp → VK → Prop} {to : TE} (h : wpE M to g fun x g1 => (∃ ds, Val g1 x (.lst ds)) ∧ mtD M r x [] g1 Q) : wpE M (tBM0 M.K "list" r to) g Q := fun Hi H θ σ f e R k =>
  h Hi H θ σ f e _ fun x g1 v Hi1 H1 θ1 hx f1 rx o1 => by
    obtain ⟨⟨ds, hv⟩, ha⟩ := hx
    obtain ⟨a, xs, rfl, h1, h2⟩ := DR.as_lst (hv _ Hi1 H1 θ1 σ f1 v rx)
    exact ⟨.inl ⟨rfl, xs, h1⟩, ha Hi1 H1 θ1 σ f1 (e.go o1) _ [] rx .nil R (k.go o1)⟩
theorem ml_val {ws : List W} (h0 : g.mu[k]? = some (.ml ws)) (hv : ∀ w ∈ ws, ∃ d, Val g w d) : ∃ ds, Val g (.c k) (.lst ds) := by
  have : ∃ ds : List D, ws.length = ds.length ∧ ∀ (i : Nat) (w : W) (d : D), ws[i]? = some w → ds[i]? = some d → Val g w d := by
    clear h0
    induction ws with
    | nil => exact ⟨[], rfl, fun i w d h => by simp at h⟩
    | cons w ws ih =>
      obtain ⟨d, hd⟩ := hv w List.mem_cons_self
      obtain ⟨ds, h1, h2⟩ := ih fun w hw => hv w (List.mem_cons_of_mem _ hw)
      refine ⟨d :: ds, by simp [h1], fun i u e a b => ?_⟩
      cases i with
      | zero =>
        simp at a b
        subst a b
        exact hd
      | succ i => exact h2 i u e (by simpa using a) (by simpa using b)
  obtain ⟨ds, h1, h2⟩ := this
  exact ⟨ds, .ml h0 h1 h2⟩
theorem mtD_app (h0 : g.mu[k]? = some (.pl ds)) (hz : ds.length < 16777216) (q : Q (.d .non) ⟨g.rho, g.mu.set k (.pl (ds ++ [d]))⟩) : mtD M rAppend (.c k) [.d d] g Q := fun Hi H θ σ f e v vs rv rs R kk => by
  obtain ⟨u, ys, rfl, r1, r2⟩ := rs.uncons
  cases r2.unnil
  obtain ⟨a, e1, rfl⟩ := rv
  obtain ⟨e0, xs, e2, e3⟩ := f.mf.cell k a _ e1 h0
  exact ⟨a, xs, u, rfl, rfl, e2, by rw [e3.1, sizeLine_eq]; exact hz, kk.setC f e1 h0 (by intro z; cases z) (c := .pl (ds ++ [d])) ⟨e0, xs ++ [u], upd_same, e3.append (.cons r1 .nil)⟩ (w := .d .non) .non q⟩
theorem mtD_appM {ws : List W} (h0 : g.mu[k]? = some (.ml ws)) (hz : ws.length < 16777216) (q : Q (.d .non) ⟨g.rho, g.mu.set k (.ml (ws ++ [w]))⟩) : mtD M rAppend (.c k) [w] g Q := fun Hi H θ σ f e v vs rv rs R kk => by
  obtain ⟨u, ys, rfl, r1, r2⟩ := rs.uncons
  cases r2.unnil
  obtain ⟨a, e1, rfl⟩ := rv
  obtain ⟨e0, xs, e2, e3⟩ := f.mf.cell k a _ e1 h0
  exact ⟨a, xs, u, rfl, rfl, e2, by rw [e3.1, sizeLine_eq]; exact hz, kk.setC f e1 h0 (by intro z; cases z) (c := .ml (ws ++ [w])) ⟨e0, xs ++ [u], upd_same, e3.append (.cons r1 .nil)⟩ (w := .d .non) .non q⟩
theorem mtD_popAt {i : Int} {j : Nat} (h0 : g.mu[k]? = some (.pl ds)) (h1 : -(2 ^ 63) ≤ i) (h2 : i < 2 ^ 63) (hj : seqIndex? i ds.length = some j) (hd : ds[j]? = some d) (q : Q (.d d) ⟨g.rho, g.mu.set k (.pl (ds.eraseIdx j))⟩) : mtD M rPopAt (.c k) [.d (.int i)] g Q := fun Hi H θ σ f e v vs rv rs R kk => by
  obtain ⟨u, ys, rfl, r1, r2⟩ := rs.uncons
  cases r2.unnil
  cases DR.as_int r1
  obtain ⟨a, e1, rfl⟩ := rv
  obtain ⟨e0, xs, e2, e3⟩ := f.mf.cell k a _ e1 h0
  obtain ⟨z, e4, e5⟩ := e3.get hd
  exact ⟨a, xs, i, j, z, rfl, rfl, e2, h1, h2, by rw [e3.1]; exact hj, e4, kk.setC f e1 h0 (by intro z; cases z) (c := .pl (ds.eraseIdx j)) ⟨e0, _, upd_same, e3.eraseIdx j⟩ (w := .d d) e5 q⟩
theorem mtD_pop (h0 : g.mu[k]? = some (.pl ds)) (hd : ds[ds.length - 1]? = some d) (q : Q (.d d) ⟨g.rho, g.mu.set k (.pl ds.dropLast)⟩) : mtD M rPop (.c k) [] g Q := fun Hi H θ σ f e v vs rv rs R kk => by
  cases rs.unnil
  obtain ⟨a, e1, rfl⟩ := rv
  obtain ⟨e0, xs, e2, e3⟩ := f.mf.cell k a _ e1 h0
  obtain ⟨z, e4, e5⟩ := e3.get hd
  exact ⟨a, xs, z, rfl, rfl, e2, by rw [e3.1]; exact e4, kk.setC f e1 h0 (by intro z; cases z) (c := .pl ds.dropLast) ⟨e0, _, upd_same, e3.dropLast⟩ (w := .d d) e5 q⟩

/-! ### stores into lists -/
theorem wpG_sub {to ti : TE} {ts : TSet} {QG : G → Prop} (h : wpE M to g fun x g1 => wpE M ti g1 fun y g2 => ∀ Hi H θ σ, Fit M.K Hi H θ σ g2 → XOk M Hi H θ → ∀ v1 v2 v3, WR M.K Hi θ v1 x → WR M.K Hi θ v2 y → WR M.K Hi θ v3 w → ∀ R : Hp → Prop, (∀ g' Hi' H' θ', QG g' → Fit M.K Hi' H' θ' σ g' → Go Hi H θ Hi' H' θ' → R H') → ts v1 v2 v3 H R) : wpG M (gSub to ti ts) w g QG := fun Hi H θ σ f e v rv R k =>
  h Hi H θ σ f e _ fun x g1 v1 Hi1 H1 θ1 hx f1 rx o1 => hx Hi1 H1 θ1 σ f1 (e.go o1) _ fun y g2 v2 Hi2 H2 θ2 hy f2 ry o2 =>
    hy Hi2 H2 θ2 σ f2 ((e.go o1).go o2) v1 v2 v (rx.go o2) ry ((rv.go o1).go o2) _ fun g3 Hi3 H3 θ3 q f3 o3 => k g3 σ Hi3 H3 θ3 q f3 ((o1.trans o2).trans o3)
theorem wpG_setL {to ti : TE} {QG : G → Prop} (h : wpE M to g fun x g1 => wpE M ti g1 fun y g2 => ∃ k ds i j, x = .c k ∧ g2.mu[k]? = some (.pl ds) ∧ y = .d (.int i) ∧ ixN ds.length i = some j ∧ QG ⟨g2.rho, g2.mu.set k (.pl (ds.set j d))⟩) : wpG M (gSub to ti rSetL) (.d d) g QG :=
  wpG_sub (wpE_mono h fun x g1 h1 => wpE_mono h1 fun y g2 ⟨k, ds, i, j, ex, h0, ey, hj, q⟩ => fun Hi H θ σ f e v1 v2 v3 r1 r2 r3 R kk => by
    subst ex ey
    cases DR.as_int r2
    obtain ⟨a, e1, rfl⟩ := r1
    obtain ⟨e0, xs, e2, e3⟩ := f.mf.cell k a _ e1 h0
    have hc : CellAt M.K Hi θ (upd H a (.lst (xs.set j v3))) a (.pl (ds.set j d)) := ⟨e0, _, upd_same, e3.set j r3⟩
    exact ⟨a, xs, i, j, rfl, rfl, e2, by rw [e3.1]; exact hj, kk _ _ _ θ q (f.go (f.mf.setC e1 h0 (by intro z; cases z) hc) (Go.setC f.mf e1)) (Go.setC f.mf e1)⟩)
theorem wpG_setM {to ti : TE} {QG : G → Prop} (h : wpE M to g fun x g1 => wpE M ti g1 fun y g2 => ∃ k ws i j, x = .c k ∧ g2.mu[k]? = some (.ml ws) ∧ y = .d (.int i) ∧ ixN ws.length i = some j ∧ QG ⟨g2.rho, g2.mu.set k (.ml (ws.set j w))⟩) : wpG M (gSub to ti rSetL) w g QG :=
  wpG_sub (wpE_mono h fun x g1 h1 => wpE_mono h1 fun y g2 ⟨k, ws, i, j, ex, h0, ey, hj, q⟩ => fun Hi H θ σ f e v1 v2 v3 r1 r2 r3 R kk => by
    subst ex ey
    cases DR.as_int r2
    obtain ⟨a, e1, rfl⟩ := r1
    obtain ⟨e0, xs, e2, e3⟩ := f.mf.cell k a _ e1 h0
    have hc : CellAt M.K Hi θ (upd H a (.lst (xs.set j v3))) a (.ml (ws.set j w)) := ⟨e0, _, upd_same, e3.set j r3⟩
    exact ⟨a, xs, i, j, rfl, rfl, e2, by rw [e3.1]; exact hj, kk _ _ _ θ q (f.go (f.mf.setC e1 h0 (by intro z; cases z) hc) (Go.setC f.mf e1)) (Go.setC f.mf e1)⟩)
end
end DL

namespace DL
open PySem PySem.Spec PyProof.Rows L2

/-! ### what a def hands back -/
def keepIo (m : Nat) (ks : List Nat) : List Nat := List.range m ++ ks
def retD (m : Nat) (Q : W → List Cell → Prop) (w : W) (μ : List Cell) : Prop :=
  ∃ (g1 : G) (w1 : W), (w1 = w ∧ g1 = ⟨[], μ⟩ ∨ ∃ d, w1 = .d d ∧ Frz [w] ⟨[], μ⟩ [d] g1) ∧ ∃ ks, okIo (keepIo m ks) [w1] g1.mu = true ∧ Q (w1.inv (keepIo m ks)) (subMu (keepIo m ks) g1.mu)
def retX (m : Nat) (Q : Xc → List Cell → Prop) (x : Xc) (μ : List Cell) : Prop := okIo (keepIo m []) [] μ = true ∧ Q x (subMu (keepIo m []) μ)
abbrev MD (K : PySem.W.Frag) (E : XK) (m : Nat) (QX : Xc → List Cell → Prop) : Mx := ⟨K, fun cls d _ H => E cls d H, fun x g => retX m QX x g.mu⟩
section
variable {m : Nat} {Q : W → List Cell → Prop} {QX : Xc → List Cell → Prop} {d : D} {μ : List Cell} {w : W}
theorem ret_at (ks : List Nat) (h : okIo (keepIo m ks) [w] μ = true) (q : Q (w.inv (keepIo m ks)) (subMu (keepIo m ks) μ)) : retD m Q w μ := ⟨⟨[], μ⟩, w, .inl ⟨rfl, rfl⟩, ks, h, q⟩
theorem ret_frz {g1 : G} (ks : List Nat) (z : Frz [w] ⟨[], μ⟩ [d] g1) (h : okIo (keepIo m ks) [.d d] g1.mu = true) (q : Q (.d d) (subMu (keepIo m ks) g1.mu)) : retD m Q w μ := ⟨g1, .d d, .inr ⟨d, rfl, z⟩, ks, h, q⟩
theorem ret0 (q : Q (.d d) []) : retD 0 Q (.d d) μ := ret_at [] rfl q
/-- one local list, handed back as a tree | as a cell -/
theorem ret0_pl {k : Nat} {ds : List D} (h : μ[k]? = some (.pl ds)) (q : Q (.d (.lst ds)) []) : retD 0 Q (.c k) μ := ret_frz (g1 := G.frz ⟨[], μ⟩ k (.lst ds)) [] (.pl h (.nil _)) rfl q
theorem ret0_c {k : Nat} {ds : List D} (h : μ[k]? = some (.pl ds)) (q : Q (.c 0) [.pl ds]) : retD 0 Q (.c k) μ := by
  have hl := (List.getElem?_eq_some_iff.mp h).1
  have e : μ.getD k .dead = .pl ds := by rw [List.getD_eq_getElem?_getD, h]; rfl
  refine ret_at [k] ?_ ?_
  · show okIo [k] [.c k] μ = true
    unfold okIo
    rw [List.all_cons, e]
    simp [hl, Cell.inIo, W.inIo]
  · show Q (.c ([k].idxOf k)) [(μ.getD k .dead).inv [k]]
    rw [e]
    simpa [Cell.inv, Cell.ren] using q
theorem retX0 {x : Xc} (q : QX x []) : retX 0 QX x μ := ⟨rfl, q⟩
end
section
variable {K : PySem.W.Frag} {Hi H Hi' H' : Hp} {θ θ' : List Addr} {μ μ1 : List Cell} {v : V} {w : W}
theorem MF.back {ws : List W} {ks : List Nat} (m : MF K Hi H θ μ) (m1 : MF K Hi' H' θ' μ1) (x : Go Hi H θ Hi' H' θ') (ok : okIo (keepIo μ.length ks) ws μ1 = true) :
    ∃ θ2, MF K Hi' H' θ2 (subMu (keepIo μ.length ks) μ1) ∧ Go Hi H θ Hi' H' θ2 ∧ ∀ v w, w ∈ ws → WR K Hi' θ' v w → WR K Hi' θ2 v (w.inv (keepIo μ.length ks)) := by
  obtain ⟨m2, hl, hn, hw⟩ := m1.down ok
  obtain ⟨ν, e, fν⟩ := x.ext
  refine ⟨_, m2, ⟨⟨ks.map fun i => θ'.getD i 0, ?_, fun a ha => ?_⟩, x.hi, x.new, x.keep, m2.there⟩, fun v w hm r => r.down hl (List.all_eq_true.mp hw w hm)⟩
  · unfold keepIo
    rw [List.map_append]
    congr 1
    rw [← m.len]
    refine List.ext_getElem? fun i => ?_
    rw [List.getElem?_map]
    by_cases hi : i < θ.length
    · rw [List.getElem?_range hi, List.getElem?_eq_getElem hi]
      show some (θ'.getD i 0) = _
      rw [e, List.getD_eq_getElem?_getD, List.getElem?_append_left hi, List.getElem?_eq_getElem hi]
      rfl
    · rw [List.getElem?_eq_none (by simpa using hi), List.getElem?_eq_none (by omega)]
      rfl
  · obtain ⟨i, hi, rfl⟩ := List.mem_map.mp ha
    have hil := hl i (List.mem_append_right _ hi)
    have hni : ¬ i < θ.length := fun q => by
      have := hn
      unfold keepIo at this
      rw [List.nodup_append] at this
      exact this.2.2 i (by rw [← m.len]; exact List.mem_range.mpr q) i hi rfl
    rw [List.getD_eq_getElem?_getD]
    rw [e] at hil ⊢
    rw [List.getElem?_append_right (by omega)]
    have : i - θ.length < ν.length := by rw [List.length_append] at hil; omega
    rw [List.getElem?_eq_getElem this]
    exact fν _ (List.getElem_mem this)
theorem fit_start {N : List Str} {vs : List V} {ws : List W} (m : MF K Hi H θ μ) (r : WRs K Hi θ vs ws) : Fit K Hi H θ (L2.start N vs) ⟨ws.map some ++ List.replicate (N.length - ws.length) none, μ⟩ := by
  refine ⟨m, by simp [L2.start, r.1], fun i w h => ?_⟩
  have h : (ws.map some ++ List.replicate (N.length - ws.length) none)[i]? = some (some w) := h
  by_cases hi : i < ws.length
  · rw [List.getElem?_append_left (by simpa using hi), List.getElem?_map] at h
    cases e : ws[i]? with
    | none => rw [e] at h; cases h
    | some u =>
      rw [e] at h
      cases h
      obtain ⟨v, h1, h2⟩ := r.get e
      refine ⟨v, ?_, h2⟩
      show (vs.map some ++ _)[i]? = _
      rw [List.getElem?_append_left (by rw [List.length_map, r.1]; exact hi), List.getElem?_map, h1]
      rfl
  · rw [List.getElem?_append_right (by simpa using hi), List.getElem?_replicate] at h
    split at h <;> cases h
end

/-! ### THE RULE of a def -/
section
variable {P : Program} {w : World} {K : PySem.W.Frag} {mg : Str → Option Value} {base : Heap}
def endN (m : Nat) (Q : W → List Cell → Prop) : N := { nx := fun g => retD m Q (.d .non) g.mu, rt := retD m Q }
theorem run_dl {N : List Str} {FF : FS} {t : TS} {vs : List V} {H : Hp} {Q : VK} {E : XK} (h : spOf K FF vs H Q E)
    (hb : ∀ ws μ Qd QX, FF ws μ Qd QX → wpS (MD K E μ.length QX) t ⟨ws.map some ++ List.replicate (N.length - ws.length) none, μ⟩ (endN μ.length Qd)) : t { nx := fun _ H' => Q .non H', rt := Q } (L2.start N vs) H := by
  obtain ⟨Hi, θ, ws, μ, Qd, Xd, m, r, ff, k1, k2⟩ := h
  have back : ∀ w μ' v Hi' H' θ', retD μ.length Qd w μ' → MF K Hi' H' θ' μ' → WR K Hi' θ' v w → Go Hi H θ Hi' H' θ' → Q v H' := by
    rintro w μ' v Hi' H' θ' ⟨g1, w1, hw, ks, ok, q⟩ m1 r1 o1
    have key : ∃ Hi1, MF K Hi1 H' θ' g1.mu ∧ WR K Hi1 θ' v w1 ∧ Go Hi H θ Hi1 H' θ' := by
      rcases hw with ⟨rfl, rfl⟩ | ⟨d, rfl, z⟩
      · exact ⟨Hi', m1, r1, o1⟩
      · obtain ⟨Hi1, f1, d1, o2⟩ := z.sound (σ := []) (vs := [v]) ⟨m1, rfl, fun i w h => by simp at h⟩ (.cons r1 .nil)
        exact ⟨Hi1, f1.mf, d1.2 0 v d rfl rfl, o1.trans o2⟩
    obtain ⟨Hi1, m2, r2, o2⟩ := key
    obtain ⟨θ2, m3, o3, rr⟩ := m.back m2 o2 ok
    exact k1 _ _ v Hi1 H' θ2 q m3 (rr v w1 List.mem_cons_self r2) o3
  refine hb ws μ Qd Xd ff Hi H θ (L2.start N vs) (fit_start m r) ?_ _ ⟨?_, ?_, ?_, ?_⟩
  · rintro x g' σ' d Hi' H' θ' ⟨ok, q⟩ f1 r1 o1
    obtain ⟨θ2, m3, o3, _⟩ := m.back f1.mf o1 ok
    exact k2 _ _ d Hi' H' θ2 q m3 r1 o3
  · exact fun g' σ' Hi' H' θ' q f1 o1 => back _ _ .non Hi' H' θ' q f1.mf DR.non o1
  · exact fun w μ' v Hi' H' θ' q m1 r1 o1 => back w μ' v Hi' H' θ' q m1 r1 o1
  · exact fun g' σ' Hi' H' θ' q f1 o1 => q.elim
  · exact fun g' σ' Hi' H' θ' q f1 o1 => q.elim
abbrev CXX (P : Program) (w : World) : CXT := L2.CX P w
theorem fn_dl {x qual : Str} {st : Stmt} {f : Addr} {fd : FuncData} {N ps : List Str} {k : Nat} {FF : FS} (F : Fun K x qual st f fd) (S : FnScope N ps (defScope st)) (hl : ∀ ws μ Q QX, FF ws μ Q QX → ws.length = ps.length)
    (hb : ∀ (cdv : Value) (A : Around) (outer : List Env) (s : Shared) (H : Hp) (E : XK), Room k (A.deeper (envOfC qual (defScope st) s.heap.objs.size f cdv)) →
      ∃ t, PSs (cxOf (L2.CX P w) P w K mg base N qual (defScope st) f cdv A outer s H E) (defBody st) t ∧
        ∀ ws μ Qd QX, FF ws μ Qd QX → wpS (MD K E μ.length QX) t ⟨ws.map some ++ List.replicate (N.length - ws.length) none, μ⟩ (endN μ.length Qd)) : FnOk P w K mg base (L2.CX P w) (k + 1) f fd ps (spOf K FF) := by
  refine F.okX S (fun vs H Q E h => ?_) fun cdv A outer s H vs Q E hr h => ?_
  · obtain ⟨Hi, θ, ws, μ, Qd, Xd, m, r, ff, _⟩ := h
    rw [r.1]
    exact hl _ _ _ _ ff
  · obtain ⟨t, ht, hw⟩ := hb cdv A outer s H E hr
    exact ⟨t, ht, run_dl h hw⟩
end
end DL

namespace DL
open PySem PySem.Spec PyProof.Rows L2

/-! ### contracts of defs that run under no guard (so repr may be called) -/
structure FnG (P : Program) (w : World) (K : PySem.W.Frag) (mg : Str → Option Value) (base : Heap) (k : Nat) (f : Addr) (fd : FuncData) (ps : List Str) (sp : Sp) : Prop where
  lenG : ∀ vs H Q E, sp vs H Q E → vs.length = ps.length
  runG : ∀ (A : Around) (outer : List Env) (s : Shared) (H : Hp) (args : Args) (us : List Value) (vs : List V) (Q : VK) (E : XK), Room k A → A.guards = some [] → Env0 P w K mg base A outer s H →
    BindsTo s fd args (ps.zip us) → Vals vs us → sp vs H Q E → codeAny (model P w) A (.call (.ref f) args) (CR (L2.CX P w) outer P w H s Q E) s
section
variable {P : Program} {w : World} {K : PySem.W.Frag} {mg : Str → Option Value} {base : Heap} {j k : Nat} {f : Addr} {fd : FuncData} {ps : List Str} {sp : Sp}
theorem FnG.of (F : FnOk P w K mg base (L2.CX P w) k f fd ps sp) : FnG P w K mg base k f fd ps sp := ⟨F.len, fun A o s H a us vs Q E r _ => F.run A o s H a us vs Q E r⟩
theorem FnG.up (F : FnG P w K mg base j f fd ps sp) (h : j ≤ k) : FnG P w K mg base k f fd ps sp := ⟨F.lenG, fun A o s H a us vs Q E r => F.runG A o s H a us vs Q E (r.mono h)⟩
theorem fng_of {name qual : Str} {params : Arguments} {body : List Stmt} {scope : Scope} {dV kV doc pm cdv ct oc : Value} {an od : Option Addr} {osl : Array (Option Value)} {N : List Str}
    (lk : K.lookup f = some ⟨oc, od, .func (PySem.W.fnOf name qual params body scope dV kV doc pm an cdv ct), osl⟩) (hcd : PySem.W.codeIn K cdv qual = true) (S : FnScope N ps scope)
    (hlen : ∀ vs H Q E, sp vs H Q E → vs.length = ps.length)
    (hb : ∀ (A : Around) (outer : List Env) (s : Shared) (H : Hp) (vs : List V) (Q : VK) (E : XK), Room k (A.deeper (envOfC qual scope s.heap.objs.size f cdv)) → A.guards = some [] → sp vs H Q E →
      ∃ t, PSs (cxOf (L2.CX P w) P w K mg base N qual scope f cdv A outer s H E) body t ∧ t { nx := fun _ H' => Q .non H', rt := Q } (L2.start N vs) H) :
    FnG P w K mg base (k + 1) f (PySem.W.fnOf name qual params body scope dV kV doc pm an cdv ct) ps sp := by
  constructor
  · exact hlen
  intro A outer s H args us vs Q E room gd en bd rv hs
  have nl := hlen _ _ _ _ hs
  have inK : K.In s.heap := (en.mod.kin).keeps fun c u z => (en.bs c u z).1
  have noLim : s.heap.NoLimit := (en.mod.nolimit).keeps fun c u z => (en.bs c u z).1
  have kinds : ∀ y ∈ ps.zip us, scope.names.lookup y.1 = some .local ∨ (scope.names.lookup y.1 = some .cell ∧ ((cellsFrom (s.heap.objs.size + 1) scope.names []).lookup y.1).isSome = true) := by
    rintro ⟨n, v⟩ hy
    have q := S.par n (List.of_mem_zip hy).1
    refine q.imp id fun q => ⟨q, ?_⟩
    exact PySem.W.cellsFrom_some _ _ _ (.inl q)
  apply codeAny_call_function room.depth (inK _ _ lk) rfl S.co S.gen rfl (PySem.W.codeRec_of inK hcd)
  apply bd
  apply wpAny_newFunctionEnv_cells S.kind kinds
  intro env he s1 x
  subst he
  refine ⟨noLim.keeps x.toInCall.keep, ?_⟩
  apply codeAny_func
  obtain ⟨t, ht, ht2⟩ := hb A outer s H vs Q E (room.deeper _) gd hs
  have J := inv_start (CX := L2.CX P w) (E := E) S room.hd en nl rv x
  have run := ht.run [] s1 (L2.start N vs) H _ J ht2
  apply wpAny_mono run
  · intro fl s' z
    cases fl with
    | next =>
      obtain ⟨σ', H', J', z⟩ := z
      exact ⟨V.non, H', J'.os, J'.bare, J'.base, J'.hok, rfl, z⟩
    | ret u =>
      obtain ⟨v, σ', H', J', r', z⟩ := z
      exact ⟨v, H', J'.os, J'.bare, J'.base, J'.hok, r', z⟩
    | brk => exact z.elim fun _ z => z.elim fun _ z => z.2.elim
    | cont => exact z.elim fun _ z => z.elim fun _ z => z.2.elim
  · exact fun e s' z => z
theorem fn_dlG {x qual : Str} {st : Stmt} {N : List Str} {FF : FS} (F : Fun K x qual st f fd) (S : FnScope N ps (defScope st)) (hl : ∀ ws μ Q QX, FF ws μ Q QX → ws.length = ps.length)
    (hb : ∀ (cdv : Value) (A : Around) (outer : List Env) (s : Shared) (H : Hp) (E : XK), Room k (A.deeper (envOfC qual (defScope st) s.heap.objs.size f cdv)) → A.guards = some [] →
      ∃ t, PSs (cxOf (L2.CX P w) P w K mg base N qual (defScope st) f cdv A outer s H E) (defBody st) t ∧
        ∀ ws μ Qd QX, FF ws μ Qd QX → wpS (MD K E μ.length QX) t ⟨ws.map some ++ List.replicate (N.length - ws.length) none, μ⟩ (endN μ.length Qd)) : FnG P w K mg base (k + 1) f fd ps (spOf K FF) := by
  obtain ⟨oc, od, kV, doc, pm, an, cdv, ct, osl, rfl, lk, hcd⟩ := F.ex
  refine fng_of lk hcd S (fun vs H Q E h => ?_) fun A outer s H vs Q E hr hg h => ?_
  · obtain ⟨Hi, θ, ws, μ, Qd, Xd, m, r, ff, _⟩ := h
    rw [r.1]
    exact hl _ _ _ _ ff
  · obtain ⟨t, ht, hw⟩ := hb cdv A outer s H E hr hg
    exact ⟨t, ht, run_dl h hw⟩
end
section
variable {X : Cx} {W : WX} {k : Nat} {f : Addr} {fd : FuncData} {ps ks : List Str} {sp : Sp} {x : Str} {p pos : Pos} {e : Expr} {es : List Expr} {ta : TE} {t tk : TA}
theorem run_fnG {pins : List (Addr × Obj)} {σ : L2.St} {H : Hp} {s : Shared} {Q : VK} {args : Args} {us : List Value} {vs : List V} (F : FnG X.prog X.w X.K X.mg X.base k f fd ps sp) (hr : Room k X.A) (hq : X.A.guards = some []) (tk : Takes X W)
    (I : Inv X pins σ H s) (hb : BindsTo s fd args (ps.zip us)) (r : Vals vs us) (h : sp vs H Q (WE W σ)) : wpAny (model X.prog X.w) X.A (call (.ref f) args.pos args.kw) (EP X pins σ Q) X.xe s := by
  apply wpAny_call
  apply codeAny_mono (F.runG X.A X.stack s H args us vs Q _ hr hq I.env0 hb r h)
  intro res s' z
  match res, z with
  | .ok (.ret u), z => exact I.after z
  | .ok .next, z => exact z.elim
  | .ok .brk, z => exact z.elim
  | .ok .cont, z => exact z.elim
  | .error e, z => exact passAt tk σ pins H s e s' I z
theorem run_fnG1 {pins : List (Addr × Obj)} {σ : L2.St} {H : Hp} {s : Shared} {Q : VK} {us : List Value} {vs : List V} (F : FnG X.prog X.w X.K X.mg X.base k f fd ps sp) (hr : Room k X.A) (hq : X.A.guards = some []) (hb : Binds X.K fd ps []) (tk : Takes X W)
    (I : Inv X pins σ H s) (r : Vals vs us) (h : sp vs H Q (WE W σ)) : wpAny (model X.prog X.w) X.A (call (.ref f) us) (EP X pins σ Q) X.xe s := by
  have n1 : (us ++ []).length = ps.length := by
    rw [List.append_nil, ← r.length]
    exact F.lenG _ _ _ _ h
  have b1 := hb s us I.kIn n1
  rw [List.append_nil] at b1
  exact run_fnG F hr hq tk I b1 r h
theorem pe_callQ (F : FnG X.prog X.w X.K X.mg X.base k f fd ps sp) (hr : Room k X.A) (hq : X.A.guards = some []) (hg : Gl X x) (hm : X.mg x = some (.ref f)) (hk : PySem.W.keepIn X.K (.ref f) = true) (hb : Binds X.K fd ps []) (tk : Takes X W)
    (ha : PA X (e :: es) t) (hdb : (x == ("__debug__" : Str)) = false := by decide) (he : starEach (e :: es) X.env = (false, eval e X.env) :: starEach es X.env := by rfl) (hpl : (backTo pos (starEach es X.env)).any (·.1) = false := by rfl) :
    PE X (.Call (.Name x p) (e :: es) [] pos) (tCallS sp (fun σ => WE W σ) t) := by
  constructor
  intro pins s σ H Q I h
  apply wpAny_Call_Name_kw
  refine ld_glob I hg hm ?_ hdb
  refine PySem.W.callWith_K (h₀ := X.base) I.ok.mod.kin hk ?_ he hpl
  refine thn (ha.run pos pins s σ H _ I h) ?_
  rintro us s1 ⟨vs, H1, I1, r, q⟩
  exact ⟨I1.kIn, run_fnG1 F hr hq hb tk I1 r q⟩
theorem pe_callQ0 (F : FnG X.prog X.w X.K X.mg X.base k f fd ps sp) (hr : Room k X.A) (hq : X.A.guards = some []) (hg : Gl X x) (hm : X.mg x = some (.ref f)) (hk : PySem.W.keepIn X.K (.ref f) = true) (hb : Binds X.K fd ps []) (tk : Takes X W)
    (hdb : (x == ("__debug__" : Str)) = false := by decide) : PE X (.Call (.Name x p) [] [] pos) (tCallS sp (fun σ => WE W σ) tNil) := by
  constructor
  intro pins s σ H Q I h
  apply wpAny_Call_Name_kw
  refine ld_glob I hg hm ?_ hdb
  exact PySem.W.callWith_K0 I.kIn hk (run_fnG1 (us := []) F hr hq hb tk I .nil h)
def tCallKS (sp : Sp) (gV : List V → List V → List V) (E : L2.St → XK) (t tk : TA) : TE := fun σ H Q => t σ H fun vs H1 => tk σ H1 fun zs H2 => sp (gV vs zs) H2 Q (E σ)
variable {g : List Value → List Value → List Value} {gV : List V → List V → List V} {kws : List Keyword}
theorem run_fnGK {pins : List (Addr × Obj)} {σ : L2.St} {H : Hp} {s : Shared} {Q : VK} {us zs : List Value} {vs ys : List V} (F : FnG X.prog X.w X.K X.mg X.base k f fd ps sp) (hr : Room k X.A) (hq : X.A.guards = some []) (hb : KBinds X.K fd ps ks g gV) (tk : Takes X W)
    (I : Inv X pins σ H s) (r : Vals vs us) (r2 : Vals ys zs) (h : sp (gV vs ys) H Q (WE W σ)) : wpAny (model X.prog X.w) X.A (call (.ref f) us (ks.zip zs)) (EP X pins σ Q) X.xe s := by
  have rr := hb.rel r r2
  have n1 : (g us zs).length = ps.length := by
    rw [← rr.length]
    exact F.lenG _ _ _ _ h
  exact run_fnG (args := ⟨us, ks.zip zs⟩) F hr hq tk I (hb.to s us zs I.kIn n1) rr h
theorem pe_callQK (F : FnG X.prog X.w X.K X.mg X.base k f fd ps sp) (hr : Room k X.A) (hq : X.A.guards = some []) (hg : Gl X x) (hm : X.mg x = some (.ref f)) (hk : PySem.W.keepIn X.K (.ref f) = true) (hb : KBinds X.K fd ps ks g gV) (tkk : Takes X W)
    (ha : PA X (e :: es) t) (hkw : PK X kws tk) (hall : (backToKw pos (keywordEach kws X.env)).all (·.1.isSome) = true := by rfl) (hks : (backToKw pos (keywordEach kws X.env)).filterMap (·.1) = ks := by rfl)
    (hdb : (x == ("__debug__" : Str)) = false := by decide) (he : starEach (e :: es) X.env = (false, eval e X.env) :: starEach es X.env := by rfl)
    (hpl : ((backTo pos (starEach (e :: es) X.env)).any (·.1) || (backToKw pos (keywordEach kws X.env)).any (·.1.isNone)) = false := by rfl) :
    PE X (.Call (.Name x p) (e :: es) kws pos) (tCallKS sp gV (fun σ => WE W σ) t tk) := by
  constructor
  intro pins s σ H Q I h
  apply wpAny_Call_Name_kw
  refine ld_glob I hg hm ?_ hdb
  refine PySem.W.callWith_KW (h₀ := X.base) I.ok.mod.kin hk hall ?_ hpl he
  refine thn (ha.run pos pins s σ H _ I h) ?_
  rintro us s1 ⟨vs, H1, I1, r, q⟩
  refine thn (hkw.run pos pins s1 σ H1 _ I1 q) ?_
  rintro zs s2 ⟨ys, H2, I2, r2, q2⟩
  refine ⟨I2.kIn, ?_⟩
  rw [hks]
  exact run_fnGK F hr hq hb tkk I2 r r2 q2
theorem pe_callQK0 (F : FnG X.prog X.w X.K X.mg X.base k f fd ps sp) (hr : Room k X.A) (hq : X.A.guards = some []) (hg : Gl X x) (hm : X.mg x = some (.ref f)) (hk : PySem.W.keepIn X.K (.ref f) = true) (hb : KBinds X.K fd ps ks g gV) (tkk : Takes X W)
    (hkw : PK X kws tk) (hall : (backToKw pos (keywordEach kws X.env)).all (·.1.isSome) = true := by rfl) (hks : (backToKw pos (keywordEach kws X.env)).filterMap (·.1) = ks := by rfl)
    (hdb : (x == ("__debug__" : Str)) = false := by decide)
    (hpl : ((backTo pos (starEach [] X.env)).any (·.1) || (backToKw pos (keywordEach kws X.env)).any (·.1.isNone)) = false := by rfl) :
    PE X (.Call (.Name x p) [] kws pos) (tCallKS sp gV (fun σ => WE W σ) tNil tk) := by
  constructor
  intro pins s σ H Q I h
  apply wpAny_Call_Name_kw
  refine ld_glob I hg hm ?_ hdb
  refine PySem.W.callWith_KW0 (h₀ := X.base) I.ok.mod.kin hk hall ?_ hpl
  refine thn (hkw.run pos pins s σ H _ I h) ?_
  rintro zs s2 ⟨ys, H2, I2, r2, q2⟩
  refine ⟨I2.kIn, ?_⟩
  rw [hks]
  exact run_fnGK F hr hq hb tkk I2 .nil r2 q2
end

/-! ### written arguments by name: put in the parameters' order -/
def mix {α : Type} (n m : Nat) (is : List Nat) (us zs : List α) : List α := if us.length = n ∧ zs.length = m then is.filterMap fun i => (us ++ zs)[i]? else []
theorem pick_vals {us : List Value} {vs : List V} (r : Vals vs us) : ∀ is : List Nat, Vals (is.filterMap fun i => vs[i]?) (is.filterMap fun i => us[i]?)
  | [] => .nil
  | i :: is => by
    have ih := pick_vals r is
    cases e : vs[i]? with
    | none =>
      have : us[i]? = none := by
        rw [List.getElem?_eq_none_iff, ← r.length]
        exact List.getElem?_eq_none_iff.mp e
      rw [List.filterMap_cons_none (by exact e), List.filterMap_cons_none (by exact this)]
      exact ih
    | some v =>
      obtain ⟨u, hu, rv⟩ := r.get e
      rw [List.filterMap_cons_some (by exact e), List.filterMap_cons_some (by exact hu)]
      exact .cons rv ih
theorem mix_vals {n m : Nat} {is : List Nat} {us zs : List Value} {vs ys : List V} (r : Vals vs us) (r2 : Vals ys zs) : Vals (mix n m is vs ys) (mix n m is us zs) := by
  unfold mix
  rw [r.length, r2.length]
  split
  · exact pick_vals (r.append r2) is
  · exact .nil
theorem pick_wrs {K : PySem.W.Frag} {Hi : Hp} {θ : List Addr} {ws : List W} {vs : List V} (r : WRs K Hi θ vs ws) : ∀ is : List Nat, WRs K Hi θ (is.filterMap fun i => vs[i]?) (is.filterMap fun i => ws[i]?)
  | [] => .nil
  | i :: is => by
    have ih := pick_wrs r is
    cases e : ws[i]? with
    | none =>
      have : vs[i]? = none := by
        rw [List.getElem?_eq_none_iff, r.1]
        exact List.getElem?_eq_none_iff.mp e
      rw [List.filterMap_cons_none (by exact this), List.filterMap_cons_none (by exact e)]
      exact ih
    | some v =>
      obtain ⟨u, hu, rv⟩ := r.get e
      rw [List.filterMap_cons_some (by exact hu), List.filterMap_cons_some (by exact e)]
      exact .cons rv ih
theorem mix_wrs {K : PySem.W.Frag} {Hi : Hp} {θ : List Addr} {n m : Nat} {is : List Nat} {ws us : List W} {vs ys : List V} (r : WRs K Hi θ vs ws) (r2 : WRs K Hi θ ys us) : WRs K Hi θ (mix n m is vs ys) (mix n m is ws us) := by
  unfold mix
  rw [r.1, r2.1]
  split
  · exact pick_wrs (r.append r2) is
  · exact .nil
theorem kb_mk {K : PySem.W.Frag} {fd : FuncData} {ps ks : List Str} {n m : Nat} {is : List Nat} (h : ∀ us zs : List Value, us.length = n → zs.length = m → bindArgs fd ⟨us, ks.zip zs⟩ = pure (ps.zip (mix n m is us zs))) (h0 : ps ≠ []) : KBinds K fd ps ks (mix n m is) (mix n m is) := by
  refine ⟨fun s us zs _ hl => ?_, fun r r2 => mix_vals r r2⟩
  by_cases q : us.length = n ∧ zs.length = m
  · exact .of_eq (h us zs q.1 q.2)
  · unfold mix at hl
    rw [if_neg q] at hl
    exact absurd (List.eq_nil_of_length_eq_zero hl.symm) h0
section
variable {M : Mx} {g g1 : G} {Q : QE} {F : FS} {n m : Nat} {is : List Nat}
theorem wpE_callKS {ta tk : TA} (h : wpA M ta g fun ws g1 => wpA M tk g1 fun us g2 => callD M F (mix n m is ws us) g2 Q) : wpE M (tCallKS (spOf M.K F) (mix n m is) (fun σ => WE M.W σ) ta tk) g Q := fun Hi H θ σ f e R k =>
  h Hi H θ σ f e _ fun ws g1 vs Hi1 H1 θ1 hx f1 rx o1 => hx Hi1 H1 θ1 σ f1 (e.go o1) _ fun us g2 ys Hi2 H2 θ2 hy f2 ry o2 =>
    call_run f2 ((e.go o1).go o2) (mix_wrs (rx.go o2) ry) (k.go (o1.trans o2)) (fun _ _ _ q => q) hy
/-- a call whose arguments are trees, and which asks for no cell -/
theorem call0 {ds : List D} {ws : List W} (e : ws = ds.map W.d) (h : F (ds.map W.d) [] (fun w μ1 => Q (w.ren fun j => g.mu.length + j) ⟨g.rho, g.mu ++ μ1.map (Cell.ren fun j => g.mu.length + j)⟩) (fun x μ1 => M.qx x ⟨g.rho, g.mu ++ μ1.map (Cell.ren fun j => g.mu.length + j)⟩)) : callD M F ws g Q := by
  subst e
  have e1 : (ren [] g.mu.length) = fun j => g.mu.length + j := by
    funext j
    simp [ren]
  refine .inl ⟨[], ?_, ?_⟩
  · simp [okIo, W.inIo]
  · rw [show (ds.map W.d).map (W.inv []) = ds.map W.d by simp [List.map_map, Function.comp_def, W.inv, W.ren]]
    have e2 : ∀ μ1, merge g.mu [] μ1 = g.mu ++ μ1.map (Cell.ren fun j => g.mu.length + j) := fun μ1 => by
      unfold merge
      rw [e1]
      simp [wput]
    simp only [e1, e2]
    exact h
end

/-! ### the law's head -/
def fLaw (n : Nat) : FS := fun ws μ Q _ => ∃ ns : List Int, ws = [.d (.lst (ns.map D.int))] ∧ μ = [] ∧ ns.length ≤ n ∧ Q (.d (.bl true)) []
theorem head_dl {P : Program} {w : World} {K : PySem.W.Frag} {mg mb : Str → Option Value} {k n : Nat} {fa a : Addr} {fd : FuncData} {x : Str} {s1 : Shared} {vs : List Value} {ns : List Int}
    (kin : K.In s1.heap) (nsm : s1.heap.Ns mainGlobals mg) (nsb : s1.heap.Ns builtinsNs mb) (bb : ∀ y : Str, y ≠ "__name__" → mb y = bootBuiltins y) (nolim : s1.heap.NoLimit) (nogen : s1.gens = #[])
    (at_a : s1.heap.get? a = some { cls := .type "list", data := .seq vs.toArray }) (hi : IntsAre vs ns) (hl : ns.length ≤ sizeLine) (hn : ns.length ≤ n) (room : Room k callerA)
    (F : ∀ base : Heap, K.In base → base.Ns mainGlobals mg → FnG P w K mg base k fa fd [x] (spOf K (fLaw n))) (hbind : ∀ (s : Shared) (u : Value), BindsTo s fd ⟨[u], []⟩ [(x, u)]) :
    codeAny (model P w) callerA (.call (.ref fa) ⟨[.ref a], []⟩) (fun r s' => r = .ok (.ret (.bool true)) ∧ OldK s1.heap s'.heap ∧ s'.os = s1.os ∧ AllBare s'.gens) s1 := by
  have rv := vals_ints hi
  have lv := hi.length
  -- H: the script alone, or nothing (where it is the module's own)
  have main : ∀ H : Hp, Only H → SqL K H a (ns.map V.int) → HOk P w H s1.heap → (∀ b, H b ≠ none → b = a ∧ K.lookup a = none) →
      codeAny (model P w) callerA (.call (.ref fa) ⟨[.ref a], []⟩) (fun r s' => r = .ok (.ret (.bool true)) ∧ OldK s1.heap s'.heap ∧ s'.os = s1.os ∧ AllBare s'.gens) s1 := by
    intro H only sq hok own
    have dic : ∀ {b : Addr} {o : Obj} {es : Array DictEntry} {ep : Nat}, s1.heap.get? b = some o → o.data = .dict es ep → H b = none := by
      intro b o es ep e d
      cases q : H b with
      | none => rfl
      | some u =>
        obtain ⟨rfl, _⟩ := own b (by rw [q]; exact fun z => nomatch z)
        rw [at_a] at e
        cases e
        exact absurd (show Data.seq vs.toArray _ = Data.dict es ep from d) fun z => nomatch z
    have nsx : ∀ {b : Addr} {m : Str → Option Value}, s1.heap.Ns b m → (hidT s1.heap H).Ns b m := by
      rintro b m ⟨o, es, ep, e, d, r⟩
      exact ⟨o, es, ep, hidT_get e (dic e d), d, r⟩
    have kinb : K.In (hidT s1.heap H) := by
      intro b o e
      refine hidT_get (kin b o e) ?_
      cases q : H b with
      | none => rfl
      | some u =>
        obtain ⟨rfl, z⟩ := own b (by rw [q]; exact fun z => nomatch z)
        rw [z] at e
        cases e
    have md : Mod K mg (hidT s1.heap H) := by
      refine ⟨kinb, nsx nsm, ⟨mb, nsx nsb, bb⟩, ?_⟩
      obtain ⟨mc, h1, h2⟩ := nolim
      exact ⟨mc, nsx h1, h2⟩
    have en : Env0 P w K mg (hidT s1.heap H) callerA [] s1 H := ⟨rfl, md, fun b o e => of_hidT e, Nat.le_of_eq (hidT_size _ _), trivial, fun b hb => absurd (show b ∈ ([] : List Addr) from hb) List.not_mem_nil, hok, .of_eq nogen⟩
    have sp0 : spOf K (fLaw n) [.ref a] H (fun v _ => v = .bl true) fun _ _ _ => False := by
      refine ⟨H, [], [.d (.lst (ns.map D.int))], [], fun w μ => w = .d (.bl true) ∧ μ = [], fun _ _ => False, ?_, ?_, ⟨ns, rfl, rfl, hn, rfl, rfl⟩, ?_, ?_⟩
      · exact ⟨Sub.refl _, rfl, .nil, fun a h => by simp at h, fun k a c h => by simp at h⟩
      · exact .cons (DR.mkl sq (.of_ints ns)) .nil
      · rintro w μ v Hi' H' θ' ⟨rfl, rfl⟩ _ r _
        exact DR.as_bl r
      · exact fun _ _ _ _ _ _ z => z.elim
    apply codeAny_mono ((F _ kinb (nsx nsm)).runG callerA [] s1 H ⟨[.ref a], []⟩ [.ref a] [.ref a] _ _ room rfl en (hbind s1 (.ref a)) (.cons rfl .nil) sp0)
    intro r s' z
    match r, z with
    | .error e, z =>
      obtain ⟨_, _, _, _, _, _, _, _, _, _, _, _, z⟩ := z
      exact z.elim
    | .ok .next, z => exact z.elim
    | .ok .brk, z => exact z.elim
    | .ok .cont, z => exact z.elim
    | .ok (.ret u), z =>
      obtain ⟨v, H', os, bare, un, hok2, r2, q⟩ := z
      have q2 : v = V.bl true := q
      subst q2
      have r3 : u = Value.bool true := r2
      subst r3
      refine ⟨rfl, .of_keep fun b o e => ?_, os, bare⟩
      cases q : H b with
      | none => exact un.keep b o e q (fun z => absurd (show b ∈ ([] : List Addr) from z) List.not_mem_nil) (by simp)
      | some u =>
        rcases only b with z | ⟨ob, xs, z⟩
        · rw [q] at z
          cases z
        · have z2 := un.frzs b ob _ z
          have e1 := (hok b _ z).1
          rw [e] at e1
          cases e1
          exact (hok2 b _ z2).1
  cases hk : K.lookup a with
  | some o =>
    have e := kin a o hk
    rw [at_a] at e
    cases e
    refine main (fun _ => none) (fun _ => .inl rfl) (.inr ⟨_, vs.toArray, _, hk, rfl, rfl, rfl, by rw [List.size_toArray, lv]; exact hl, by simpa using rv⟩) (fun b u z => ?_) fun b z => absurd rfl z
    exact absurd (show (none : Option HO) = some u from z) fun z => nomatch z
  | none =>
    let H0 : Hp := fun b => if b = a then some (.frz { cls := .type "list", data := .seq vs.toArray } (.lst (ns.map V.int))) else none
    have h1 : H0 a = some (.frz { cls := .type "list", data := .seq vs.toArray } (.lst (ns.map V.int))) := if_pos rfl
    have h2 : ∀ b, b ≠ a → H0 b = none := fun b hb => if_neg hb
    refine main H0 (fun b => ?_) (.inl (.inr ⟨_, h1⟩)) (fun b u z => ?_) (fun b z => ?_)
    · by_cases hb : b = a
      · subst hb
        exact .inr ⟨_, _, h1⟩
      · exact .inl (h2 b hb)
    · by_cases hb : b = a
      · subst hb
        rw [h1] at z
        cases z
        exact ⟨at_a, by rw [List.length_map]; exact hl, vs, _, rv, at_a⟩
      · rw [h2 b hb] at z
        cases z
    · by_cases hb : b = a
      · exact ⟨hb, hk⟩
      · exact absurd (h2 b hb) z
theorem walk_dl {l : PySem.W.OpenLaw} {n k : Nat} {q : Program} {loose : List Str} {XP : (Str → Option Value) → Heap → Prop} {YP : World → Heap → Prop} {d : DefRec} {K : Params → PySem.W.Frag} {x : Str}
    (hn : l.most = some n) (hn2 : n ≤ sizeLine) (hdf : d.params.defaults = []) (hr : Room k callerA) (hY : ∀ (w : World) (h : Heap), YP w h → (K w.params).In h)
    (F : ∀ (w : World) (mg : Str → Option Value) (fa : Addr) (h : Heap), (K w.params).In h → h.Ns mainGlobals mg → mg d.name = some (.ref fa) →
      ∃ fd : FuncData, (∀ (s : Shared) (u : Value), BindsTo s fd ⟨[u], []⟩ [(x, u)]) ∧
        ∀ base : Heap, (K w.params).In base → base.Ns mainGlobals mg → FnG l.prog w (K w.params) mg base k fa fd [x] (spOf (K w.params) (fLaw n))) :
    PySem.W.WalkO q loose XP YP l.row.toRowW d [] (fun f vs => PySem.call f vs) := by
  apply Att.attach_call hn hdf
  intro w s0 s1 mg mb fa o pm cd doc a vs ns G Y ho hd hcd hmg hobj hints hlen hg
  have kin := hY w _ Y
  obtain ⟨fd, hb, hF⟩ := F w mg fa _ kin G.T.g hmg
  exact head_dl kin G.T.g G.T.b G.T.builtins G.T.nolimit hg hobj hints (Nat.le_trans hlen hn2) hlen hr hF hb
end DL

namespace DL
open PySem PySem.Spec PyProof.Rows L2

/-! ### defs of the text, as the top leaves them -/
structure Here (K : PySem.W.Frag) (mg : Str → Option Value) (x : Str) (st : Stmt) : Prop where
  at_ : ∃ f fd, Fun K x x st f fd ∧ mg x = some (.ref f)
theorem here_mk {K : PySem.W.Frag} {h : Heap} {mg : Str → Option Value} {x : Str} {st : Stmt} {f : Addr} {oc : Value} {od an : Option Addr} {osl : Array (Option Value)} {kV doc pm cdv ct : Value} (X : K.In h) (G : h.Ns mainGlobals mg)
    (a : PySem.W.nsIn K mainGlobals x = some (some (.ref f))) (l : K.lookup f = some ⟨oc, od, .func (PySem.W.fnOf x x (defArgs st) (defBody st) (defScope st) .none kV doc pm an cdv ct), osl⟩) (c : PySem.W.codeIn K cdv x = true) (k : PySem.W.keepIn K (.ref f) = true) : Here K mg x st :=
  ⟨f, _, fun_mk l c k, PySem.W.mg_of X G a⟩
def Dx (P : Program) (w : World) (K : PySem.W.Frag) (mg : Str → Option Value) (base : Heap) (k : Nat) (x : Str) (ps : List Str) (F : FS) : Prop :=
  ∃ f fd, mg x = some (.ref f) ∧ PySem.W.keepIn K (.ref f) = true ∧ Binds K fd ps [] ∧ FnG P w K mg base k f fd ps (spOf K F)
def Dk (P : Program) (w : World) (K : PySem.W.Frag) (mg : Str → Option Value) (base : Heap) (k : Nat) (x : Str) (ps ks : List Str) (mx : ∀ {α : Type}, List α → List α → List α) (F : FS) : Prop :=
  ∃ f fd, mg x = some (.ref f) ∧ PySem.W.keepIn K (.ref f) = true ∧ KBinds K fd ps ks mx mx ∧ FnG P w K mg base k f fd ps (spOf K F)
section
variable {P : Program} {w : World} {K : PySem.W.Frag} {mg : Str → Option Value} {base : Heap} {k : Nat} {x : Str} {st : Stmt} {ps ks : List Str} {F : FS}
theorem dx_mk (h : Here K mg x st) (hb : ∀ {f fd}, Fun K x x st f fd → Binds K fd ps []) (hf : ∀ {f fd}, Fun K x x st f fd → FnG P w K mg base k f fd ps (spOf K F)) : Dx P w K mg base k x ps F := by
  obtain ⟨f, fd, h1, h2⟩ := h.at_
  exact ⟨f, fd, h2, h1.kp, hb h1, hf h1⟩
theorem dk_mk {mx : ∀ {α : Type}, List α → List α → List α} (h : Here K mg x st) (hb : ∀ {f fd}, Fun K x x st f fd → KBinds K fd ps ks mx mx) (hf : ∀ {f fd}, Fun K x x st f fd → FnG P w K mg base k f fd ps (spOf K F)) : Dk P w K mg base k x ps ks mx F := by
  obtain ⟨f, fd, h1, h2⟩ := h.at_
  exact ⟨f, fd, h2, h1.kp, hb h1, hf h1⟩
theorem law_mk (h : Here K mg "law" st) (hf : ∀ {base f fd}, Fun K "law" "law" st f fd → FnG P w K mg base k f fd ["script"] (spOf K F))
    (hb : ∀ (kV doc pm : Value) (an : Option Addr) (cdv ct v : Value), bindArgs (PySem.W.fnOf "law" "law" (defArgs st) (defBody st) (defScope st) .none kV doc pm an cdv ct) ⟨[v], []⟩ = pure [(("script" : Str), v)]) {fa : Addr} (e : mg "law" = some (.ref fa)) :
    ∃ fd : FuncData, (∀ (s : Shared) (v : Value), BindsTo s fd ⟨[v], []⟩ [("script", v)]) ∧ ∀ base : Heap, K.In base → base.Ns mainGlobals mg → FnG P w K mg base k fa fd ["script"] (spOf K F) := by
  obtain ⟨f, fd, h1, h2⟩ := h.at_
  rw [e] at h2
  cases h2
  refine ⟨fd, fun s v => ?_, fun base _ _ => hf h1⟩
  obtain ⟨oc, od, kV, doc, pm, an, cdv, ct, osl, rfl, lk, hcd⟩ := h1.ex
  exact .of_eq (hb _ _ _ _ _ _ _)
end

/-! ### tuples of constants of the module -/
def CV : D → Value → Prop
  | .str s, u => ∃ t, u = .str s t
  | .int i, u => ∃ t, u = .int i t
  | _, _ => False
inductive CVs : List D → List Value → Prop
  | nil : CVs [] []
  | cons {d : D} {u : Value} {ds : List D} {us : List Value} (h : CV d u) (t : CVs ds us) : CVs (d :: ds) (u :: us)
def KTup (K : PySem.W.Frag) (a : Addr) (ds : List D) : Prop := ∃ (o : Obj) (us : List Value) (n : Nat), K.lookup a = some o ∧ o.cls = .type "tuple" ∧ o.data = .seq us.toArray n ∧ us.length ≤ 1000 ∧ CVs ds us
theorem cv_rel {K : PySem.W.Frag} {H : Hp} {d : D} {u : Value} (h : CV d u) : ∃ v, RelV v u ∧ DR K H v d := by
  cases d with
  | str s =>
    obtain ⟨t, rfl⟩ := h
    exact ⟨.str s, ⟨t, rfl⟩, .str s⟩
  | int i =>
    obtain ⟨t, rfl⟩ := h
    exact ⟨.int i, ⟨t, rfl⟩, .int i⟩
  | _ => exact h.elim
theorem cvs_rel {K : PySem.W.Frag} {ds : List D} {us : List Value} (h : CVs ds us) : ∃ vs, Vals vs us ∧ ∀ H, DRs K H vs ds := by
  induction h with
  | nil => exact ⟨[], .nil, fun H => .nil⟩
  | cons h t ih =>
    obtain ⟨vs, r, q⟩ := ih
    rename_i d u ds us
    cases d with
    | str s =>
      obtain ⟨t, rfl⟩ := h
      exact ⟨.str s :: vs, .cons ⟨t, rfl⟩ r, fun H => .cons (.str s) (q H)⟩
    | int i =>
      obtain ⟨t, rfl⟩ := h
      exact ⟨.int i :: vs, .cons ⟨t, rfl⟩ r, fun H => .cons (.int i) (q H)⟩
    | _ => exact h.elim
def tKT (K : PySem.W.Frag) (ds : List D) : TE := fun _ H Q => ∀ v, (∀ H', DR K H' v (.tup ds)) → Q v H
theorem pe_ktup {X : Cx} {x : Str} {pos : Pos} {a : Addr} {ds : List D} (hg : Gl X x) (hm : X.mg x = some (.ref a)) (k : KTup X.K a ds) (hd : (x == ("__debug__" : Str)) = false := by decide) : PE X (.Name x pos) (tKT X.K ds) := by
  obtain ⟨o, us, n, h1, h2, h3, h4, h5⟩ := k
  obtain ⟨vs, r, q⟩ := cvs_rel (K := X.K) h5
  refine ⟨fun pins s σ H Q I h => ?_⟩
  refine (pe_glob (v := .ref a) hg hm rfl hd).run pins s σ H Q I (h _ fun H' => .mkt (.inr ⟨o, us.toArray, n, h1, h2, h3, ?_, by simpa using r⟩) (q H'))
  rw [List.size_toArray, sizeLine_eq]
  omega
section
variable {M : Mx} {g g1 : G} {Q : QE} {w x y : W} {d e : D} {k : Nat} {ds es : List D} {QT : Bool → G → Prop}
theorem wpE_kt (q : Q (.d (.tup ds)) g) : wpE M (tKT M.K ds) g Q := fun Hi H θ σ f e R k v hv => k.now f (w := .d (.tup ds)) (hv _) q
end

/-! ### rules that take lists and tuples, and ranges -/
section
variable {X : Cx}
def rInA (K : PySem.W.Frag) (neg : Bool) : R2 := fun x y H Q => rIn K neg x y H Q ∨ rInRng neg x y H Q
theorem op_inA : OpR X (compareOp .In) (rInA X.K false) := op_in_seq.or op_inRng
theorem op_notInA : OpR X (compareOp .NotIn) (rInA X.K true) := op_notIn_seq.or op_notInRng
def rSlAny (K : PySem.W.Frag) : V → Option Int → Option Int → Hp → VK → Prop := fun x lo hi H Q => rSlL K x lo hi H Q ∨ rSlA K x lo hi H Q
theorem sl_any : SlR X (rSlAny X.K) := sl_list.or sl_tupA
def iAny (K : PySem.W.Frag) (te : TE) : TI := fun σ H R => iList K te σ H R ∨ iTup K te σ H R
theorem pi_any {tg e : Expr} {te : TE} (he : PE X e te) : PI X tg e (iAny X.K te) := by
  refine ⟨fun pins s σ H R I h => ?_⟩
  rcases h with h | h
  · exact (pi_list he).run pins s σ H R I h
  · exact (pi_tup he).run pins s σ H R I h
theorem call_sumD (hc : X.calm = true) : CallR X (.builtin "sum") (rSum X.K) := cr_sum hc
theorem call_max1D (hc : X.calm = true) : CallR X (.builtin "max") (rMax X.K) := cr_max hc
theorem call_min1D (hc : X.calm = true) : CallR X (.builtin "min") (rMin X.K) := cr_min hc
theorem call_anyD (hc : X.calm = true) : CallR X (.builtin "any") (rAny X.K) := cr_any hc
theorem call_allD (hc : X.calm = true) : CallR X (.builtin "all") (rAll X.K) := cr_all hc
theorem call_sortedI1 : CallR X (.builtin "sorted") (rSortedI X.K) := cr_sortedI
end
section
variable {M : Mx} {g g1 : G} {Q : QE} {w x y : W} {d e : D} {k : Nat} {ds es : List D} {QT : Bool → G → Prop} {Hi H : Hp} {te tb : TE} {ta : TA}
theorem opD_inA {neg : Bool} (h : opD M (rIn M.K neg) x y g Q) : opD M (rInA M.K neg) x y g Q := fun Hi H θ σ ft e v u rv ru R k => .inl (h Hi H θ σ ft e v u rv ru R k)
theorem opD_inAr {neg : Bool} (h : opD M (rInRng neg) x y g Q) : opD M (rInA M.K neg) x y g Q := fun Hi H θ σ ft e v u rv ru R k => .inr (h Hi H θ σ ft e v u rv ru R k)
theorem slD_anyL {lo hi : Option Int} (h : slD M (rSlL M.K) x lo hi g Q) : slD M (rSlAny M.K) x lo hi g Q := fun Hi H θ σ ft e v rv R k => .inl (h Hi H θ σ ft e v rv R k)
theorem slD_anyC {lo hi : Option Int} (h : slD M (rSlLC M.K) x lo hi g Q) : slD M (rSlAny M.K) x lo hi g Q := fun Hi H θ σ ft e v rv R k => .inl (h Hi H θ σ ft e v rv R k)
theorem slD_anyT {lo hi : Option Int} (h : slD M (rSlA M.K) x lo hi g Q) : slD M (rSlAny M.K) x lo hi g Q := fun Hi H θ σ ft e v rv R k => .inr (h Hi H θ σ ft e v rv R k)
theorem wpI_anyT {QI : List D → G → Prop} (h : wpE M te g fun w g1 => ∃ ds, w = .d (.tup ds) ∧ QI ds g1) : wpI M (iAny M.K te) g QI := fun Hi H θ σ f e R k => .inr (wpI_tup h Hi H θ σ f e R k)
/-- a list: if it is a cell, it is frozen from here on -/
theorem wpI_anyL {QI : List D → G → Prop} (h : wpE M te g fun w g1 => ∃ ds g2, Frz [w] g1 [.lst ds] g2 ∧ QI ds g2) : wpI M (iAny M.K te) g QI := fun Hi H θ σ f e R k =>
  .inl (h Hi H θ σ f e _ fun w g1 v Hi1 H1 θ1 hx f1 rx o1 => by
    obtain ⟨ds, g2, z, q⟩ := hx
    obtain ⟨Hi2, f2, r2, o2⟩ := z.sound f1 (.cons rx .nil)
    obtain ⟨a, xs, rfl, h1, h2⟩ := DR.as_lst (r2.2 0 v _ rfl rfl)
    exact ⟨a, rfl, ⟨xs, f2.mf.sub.sqL h1⟩, k ds g2 _ Hi2 H1 θ1 q f2 (o1.trans o2) (it_list h1 h2)⟩)
theorem wpI_enumF {QI : List D → G → Prop} (h : wpA M ta g fun ws g1 => ∃ ds g2, Frz ws g1 [.lst ds] g2 ∧ QI (enumD ds) g2) : wpI M (iEnum M.K ta) g QI := fun Hi H θ σ f e R k =>
  h Hi H θ σ f e _ fun ws g1 vs Hi1 H1 θ1 hx f1 rx o1 => by
    obtain ⟨ds, g2, z, q⟩ := hx
    obtain ⟨Hi2, f2, r2, o2⟩ := z.sound f1 rx
    have e0 := r2.1
    match vs, e0, r2 with
    | [v], _, r2 =>
      obtain ⟨a, xs, rfl, h1, h2⟩ := DR.as_lst (r2.2 0 v _ rfl rfl)
      exact ⟨a, xs, rfl, f2.mf.sub.sqL h1, k _ g2 _ Hi2 H1 θ1 q f2 (o1.trans o2) (it_enum h1 h2)⟩
theorem wpI_zipF {QI : List D → G → Prop} (h : wpA M ta g fun ws g1 => ∃ ds es g2, Frz ws g1 [.lst ds, .lst es] g2 ∧ QI (zipD ds es) g2) : wpI M (iZip M.K ta) g QI := fun Hi H θ σ f e R k =>
  h Hi H θ σ f e _ fun ws g1 vs Hi1 H1 θ1 hx f1 rx o1 => by
    obtain ⟨ds, es, g2, z, q⟩ := hx
    obtain ⟨Hi2, f2, r2, o2⟩ := z.sound f1 rx
    have e0 := r2.1
    match vs, e0, r2 with
    | [v, u], _, r2 =>
      obtain ⟨a, xs, rfl, h1, h2⟩ := DR.as_lst (r2.2 0 v _ rfl rfl)
      obtain ⟨b, ys, rfl, h3, h4⟩ := DR.as_lst (r2.2 1 u _ rfl rfl)
      exact ⟨a, b, xs, ys, rfl, f2.mf.sub.sqL h1, f2.mf.sub.sqL h3, k _ g2 _ Hi2 H1 θ1 q f2 (o1.trans o2) (it_zip h1 h2 h3 h4)⟩
theorem Frz.one {d : D} : Frz [.d d] g [d] g := .d (.nil g)
theorem Frz.onec (h : g.mu[k]? = some (.pl ds)) : Frz [.c k] g [.lst ds] (g.frz k (.lst ds)) := .pl h (.nil _)
/-- a display times an int: the display itself is not kept -/
theorem wpE_rep (h : wpA M ta g fun ws g1 => ∃ ds g2, Frz ws g1 ds g2 ∧ ds.length ≤ 1000 ∧ wpE M tb g2 fun y g3 => ∃ n : Int, y = .d (.int n) ∧ -(2 ^ 40) ≤ n ∧ n < 2 ^ 40 ∧ ds.length * n.toNat ≤ 16777216 ∧
    (Q (.d (.lst (List.replicate n.toNat ds).flatten)) g3 ∨ Q (.c g3.mu.length) ⟨g3.rho, g3.mu ++ [.pl (List.replicate n.toNat ds).flatten]⟩)) : wpE M (tOp rMulA (tLst ta) tb) g Q := fun Hi H θ σ f e R kk => by
  refine h Hi H θ σ f e _ fun ws g1 vs Hi1 H1 θ1 hx f1 rx o1 => ?_
  obtain ⟨ds, g2, z, hl, q⟩ := hx
  obtain ⟨Hi2, f2, r2, o2⟩ := z.sound f1 rx
  refine ⟨by rw [r2.1, sizeLine_eq]; omega, fun p hp => ?_⟩
  have hpi : Hi2 p = none := f2.mf.sub.none hp
  have m3 : MF M.K Hi2 (upd H1 p (.lst vs)) θ1 g2.mu := by
    refine ⟨f2.mf.sub.mut hpi, f2.mf.len, f2.mf.nd, fun a ha => ?_, fun j a c h1 h2 => ?_⟩
    · by_cases q : a = p
      · subst q
        rw [upd_same]
        exact fun z => nomatch z
      · rw [upd_ne q]
        exact f2.mf.there a ha
    · have hne : a ≠ p := fun q => f2.mf.there a (List.mem_of_getElem? h1) (by rw [q]; exact hp)
      refine (f2.mf.cell j a c h1 h2).mono (Sub.refl _) ?_ ⟨[], by simp⟩ (upd_ne hne)
      by_cases q : c = .dead
      · exact .inl q
      · exact .inr ((f2.mf.cell j a c h1 h2).no q)
  have hpθ : p ∉ θ1 := fun q => f2.mf.there p q hp
  have o3 : Go Hi2 H1 θ1 Hi2 (upd H1 p (.lst vs)) θ1 := ⟨⟨[], by simp, fun _ h => by simp at h⟩, Sub.refl _, fun _ _ h => .inl h, fun a o h _ => by rw [upd_ne (ne_of_none h hp)]; exact h, m3.there⟩
  have f3 : Fit M.K Hi2 (upd H1 p (.lst vs)) θ1 σ g2 := ⟨m3, f2.len, f2.slot⟩
  have oo := (o1.trans o2).trans o3
  refine q Hi2 _ θ1 σ f3 (e.go oo) _ fun y g3 u Hi4 H4 θ4 hy f4 ry o4 => ?_
  obtain ⟨n, rfl, hn0, hn1, hn2, q⟩ := hy
  cases DR.as_int ry
  have hp4 : H4 p = some (.lst vs) := o4.keep p _ upd_same hpθ
  have rr : DRs M.K Hi4 vs ds := r2.mono o4.hi
  exact .inr ⟨p, n, vs, rfl, rfl, hp4, by omega, by omega, by rw [r2.1, sizeLine_eq]; exact hn2, fun p2 hp2 => by
      rcases q with q | q
      · exact (kk.go (oo.trans o4)).newL f4 hp2 (rr.flat _) q
      · exact (kk.go (oo.trans o4)).newPl f4 hp2 (rr.flat _) q⟩
end
end DL

namespace DL
open PySem PySem.Spec PyProof.Rows L2

/-! ### branches -/
theorem br_t {A B : Prop} (h : A) : (true = true → A) ∧ (true = false → B) := ⟨fun _ => h, fun z => by cases z⟩
theorem br_f {A B : Prop} (h : B) : (false = true → A) ∧ (false = false → B) := ⟨fun z => (by cases z), fun _ => h⟩
theorem br_dec {p A B : Prop} [Decidable p] (h1 : p → A) (h2 : ¬ p → B) : (decide p = true → A) ∧ (decide p = false → B) := ⟨fun z => h1 (of_decide_eq_true z), fun z => h2 (of_decide_eq_false z)⟩
theorem br_yes {p A B : Prop} [Decidable p] (hp : p) (h1 : A) : (decide p = true → A) ∧ (decide p = false → B) := ⟨fun _ => h1, fun z => absurd hp (of_decide_eq_false z)⟩
theorem br_no {p A B : Prop} [Decidable p] (hp : ¬ p) (h1 : B) : (decide p = true → A) ∧ (decide p = false → B) := ⟨fun z => absurd (of_decide_eq_true z) hp, fun _ => h1⟩
theorem br_ndec {p A B : Prop} [Decidable p] (h1 : p → B) (h2 : ¬ p → A) : ((!decide p) = true → A) ∧ ((!decide p) = false → B) :=
  ⟨fun z => h2 (by simpa using z), fun z => h1 (by simpa using z)⟩
theorem br_nyes {p A B : Prop} [Decidable p] (hp : p) (h1 : B) : ((!decide p) = true → A) ∧ ((!decide p) = false → B) := br_ndec (fun _ => h1) fun z => absurd hp z
theorem br_nno {p A B : Prop} [Decidable p] (hp : ¬ p) (h1 : A) : ((!decide p) = true → A) ∧ ((!decide p) = false → B) := br_ndec (fun z => absurd z hp) fun _ => h1
theorem br_any {b : Bool} {A B : Prop} (h1 : b = true → A) (h2 : b = false → B) : (b = true → A) ∧ (b = false → B) := ⟨h1, h2⟩
theorem br_nott {A B : Prop} (h : B) : ((!true) = true → A) ∧ ((!true) = false → B) := ⟨fun z => (by cases z), fun _ => h⟩
theorem br_notf {A B : Prop} (h : A) : ((!false) = true → A) ∧ ((!false) = false → B) := ⟨fun _ => h, fun z => (by cases z)⟩

theorem beqd {α : Type} [BEq α] [LawfulBEq α] [DecidableEq α] (i j : α) : (i == j) = decide (i = j) := by
  rw [Bool.eq_iff_iff]
  simp
def asD : List W → Option (List D)
  | [] => some []
  | .d d :: ws => (asD ws).map (d :: ·)
  | .c _ :: _ => none
theorem asD_eq : ∀ {ws : List W} {ds : List D}, asD ws = some ds → ws = ds.map W.d
  | [], ds, h => by
    cases h
    rfl
  | .d d :: ws, ds, h => by
    unfold asD at h
    cases e : asD ws with
    | none => rw [e] at h; cases h
    | some es =>
      rw [e] at h
      cases h
      rw [asD_eq e]
      rfl
  | .c _ :: _, ds, h => by cases h
theorem Frz.all {g : G} : ∀ ds : List D, Frz (ds.map W.d) g ds g
  | [] => .nil g
  | _ :: es => .d (Frz.all es)
section
variable {M : Mx} {g g1 : G} {Q : QE} {w x y : W} {d e : D} {k : Nat} {ds es : List D} {QT : Bool → G → Prop} {te tb : TE} {ta : TA} {n : N} {F : FS}
theorem wpE_tupD (h : wpA M ta g fun ws g1 => ∃ ds, asD ws = some ds ∧ ds.length ≤ 1000 ∧ Q (.d (.tup ds)) g1) : wpE M (tTup ta) g Q := wpE_tup fun Hi H θ σ f e R k =>
  h Hi H θ σ f e R fun ws g' vs Hi' H' θ' ⟨ds, hw, hl, q⟩ f' r o => k ws g' vs Hi' H' θ' ⟨ds, g', by rw [asD_eq hw]; exact .all ds, by rw [asD_eq hw, List.length_map]; omega, q⟩ f' r o
theorem wpE_lstD (h : wpA M ta g fun ws g1 => ∃ ds, asD ws = some ds ∧ ds.length ≤ 1000 ∧ Q (.d (.lst ds)) g1) : wpE M (tLst ta) g Q := wpE_lst fun Hi H θ σ f e R k =>
  h Hi H θ σ f e R fun ws g' vs Hi' H' θ' ⟨ds, hw, hl, q⟩ f' r o => k ws g' vs Hi' H' θ' ⟨ds, g', by rw [asD_eq hw]; exact .all ds, by rw [asD_eq hw, List.length_map]; omega, q⟩ f' r o
theorem wpE_lstP (h : wpA M ta g fun ws g1 => ∃ ds, asD ws = some ds ∧ ds.length ≤ 1000 ∧ Q (.c g1.mu.length) ⟨g1.rho, g1.mu ++ [.pl ds]⟩) : wpE M (tLst ta) g Q := wpE_lstC fun Hi H θ σ f e R k =>
  h Hi H θ σ f e R fun ws g' vs Hi' H' θ' ⟨ds, hw, hl, q⟩ f' r o => k ws g' vs Hi' H' θ' ⟨ds, g', by rw [asD_eq hw]; exact .all ds, by rw [asD_eq hw, List.length_map]; omega, q⟩ f' r o
theorem wpE_lstW (h : wpA M ta g fun ws g1 => ws.length ≤ 16777216 ∧ Q (.c g1.mu.length) ⟨g1.rho, g1.mu ++ [.ml ws]⟩) : wpE M (tLst ta) g Q := wpE_lstM h
/-- within a comprehension -/
theorem wpE_callN {ta : TA} (h : wpA M ta g fun ws g1 => callD { M with qx := fun _ _ => False } F ws g1 Q) : wpE M (tCallS (spOf M.K F) (fun σ => WE (fun _ _ _ _ => False) σ) ta) g Q := fun Hi H θ σ f e R k =>
  h Hi H θ σ f e _ fun ws g1 vs Hi1 H1 θ1 hx f1 rx o1 => call_run (M := { M with W := fun _ _ _ _ => False, qx := fun _ _ => False }) f1 (fun _ _ _ _ _ _ _ q _ _ _ => q.elim) rx (k.go o1) (fun _ _ _ q => q) hx
theorem wpS_never (h : False) : wpS M tNever g n := h.elim

/-! ### == of what is often met -/
theorem opD_eqTI {i j : Int} (q : Q (.d (.bl (decide (i = j)))) g) : opD M (rEqT M.K) (.d (.int i)) (.d (.int j)) g Q :=
  opD_eqT (n := 0) (m := 0) .t .t trivial trivial (by omega) (by omega) (by
    rw [show D.eqv (.int i) (.int j) = decide (i = j) by simp [D.eqv, toPy, PyData.eqv, beqd]]
    exact q)
theorem opD_neTI {i j : Int} (q : Q (.d (.bl (!decide (i = j)))) g) : opD M (rNeT M.K) (.d (.int i)) (.d (.int j)) g Q :=
  opD_neT (n := 0) (m := 0) .t .t trivial trivial (by omega) (by omega) (by
    rw [show D.eqv (.int i) (.int j) = decide (i = j) by simp [D.eqv, toPy, PyData.eqv, beqd]]
    exact q)
theorem opD_eqTB {i j : Bool} (q : Q (.d (.bl (decide (i = j)))) g) : opD M (rEqT M.K) (.d (.bl i)) (.d (.bl j)) g Q :=
  opD_eqT (n := 0) (m := 0) .t .t trivial trivial (by omega) (by omega) (by
    rw [show D.eqv (.bl i) (.bl j) = decide (i = j) by simp [D.eqv, toPy, PyData.eqv, beqd]]
    exact q)
theorem opD_neTB {i j : Bool} (q : Q (.d (.bl (!decide (i = j)))) g) : opD M (rNeT M.K) (.d (.bl i)) (.d (.bl j)) g Q :=
  opD_neT (n := 0) (m := 0) .t .t trivial trivial (by omega) (by omega) (by
    rw [show D.eqv (.bl i) (.bl j) = decide (i = j) by simp [D.eqv, toPy, PyData.eqv, beqd]]
    exact q)
theorem eqv_str {i j : Str} : D.eqv (.str i) (.str j) = decide (i = j) := by simp [D.eqv, toPy, PyData.eqv, beqd]
theorem opD_eqTS {i j : Str} (hi : PyData.strOk i = true) (hj : PyData.strOk j = true) (q : Q (.d (.bl (decide (i = j)))) g) : opD M (rEqT M.K) (.d (.str i)) (.d (.str j)) g Q :=
  opD_eqT (n := 0) (m := 0) .t .t hi hj (by omega) (by omega) (by rw [eqv_str]; exact q)
theorem opD_neTS {i j : Str} (hi : PyData.strOk i = true) (hj : PyData.strOk j = true) (q : Q (.d (.bl (!decide (i = j)))) g) : opD M (rNeT M.K) (.d (.str i)) (.d (.str j)) g Q :=
  opD_neT (n := 0) (m := 0) .t .t hi hj (by omega) (by omega) (by rw [eqv_str]; exact q)
/-- literals: equal, different -/
theorem opD_eqTSt {i : Str} (hi : PyData.strOk i = true) (q : Q (.d (.bl true)) g) : opD M (rEqT M.K) (.d (.str i)) (.d (.str i)) g Q := opD_eqTS hi hi (by rw [decide_eq_true rfl]; exact q)
theorem opD_eqTSf {i j : Str} (hi : (PyData.strOk i && PyData.strOk j && !decide (i = j)) = true) (q : Q (.d (.bl false)) g) : opD M (rEqT M.K) (.d (.str i)) (.d (.str j)) g Q := by
  simp only [Bool.and_eq_true] at hi
  exact opD_eqTS hi.1.1 hi.1.2 (by rw [show decide (i = j) = false by simpa using hi.2]; exact q)
theorem opD_neTSt {i : Str} (hi : PyData.strOk i = true) (q : Q (.d (.bl false)) g) : opD M (rNeT M.K) (.d (.str i)) (.d (.str i)) g Q := opD_neTS hi hi (by rw [decide_eq_true rfl]; exact q)
theorem opD_neTSf {i j : Str} (hi : (PyData.strOk i && PyData.strOk j && !decide (i = j)) = true) (q : Q (.d (.bl true)) g) : opD M (rNeT M.K) (.d (.str i)) (.d (.str j)) g Q := by
  simp only [Bool.and_eq_true] at hi
  exact opD_neTS hi.1.1 hi.1.2 (by rw [show decide (i = j) = false by simpa using hi.2]; exact q)
/-- is None, of a known value -/
theorem opD_isNon1 (q : Q (.d (.bl true)) g) : opD M rIsNon (.d .non) (.d .non) g Q := opD_isNon q
theorem opD_isNonc (q : Q (.d (.bl false)) g) : opD M rIsNon (.c k) (.d .non) g Q := opD_isNon q
theorem opD_isNonf (h : d.isNon = false) (q : Q (.d (.bl false)) g) : opD M rIsNon (.d d) (.d .non) g Q := opD_isNon (by
  rw [show (W.d d).isNon = false by cases d <;> first | rfl | exact absurd h (by simp [D.isNon])]
  exact q)
theorem opD_notNon1 (q : Q (.d (.bl false)) g) : opD M rNotNon (.d .non) (.d .non) g Q := opD_notNon q
theorem opD_notNonc (q : Q (.d (.bl true)) g) : opD M rNotNon (.c k) (.d .non) g Q := opD_notNon q
theorem opD_notNonf (h : d.isNon = false) (q : Q (.d (.bl true)) g) : opD M rNotNon (.d d) (.d .non) g Q := opD_notNon (by
  rw [show (W.d d).isNon = false by cases d <;> first | rfl | exact absurd h (by simp [D.isNon])]
  exact q)
/-- items of known lists -/
theorem opD_ix {i : Int} {j : Nat} (hx : x = .d (.lst ds) ∨ x = .d (.tup ds) ∨ ∃ k, x = .c k ∧ g.mu[k]? = some (.pl ds)) (hj : ixN ds.length i = some j) (hd : ds[j]? = some d) (q : Q (.d d) g) : opD M (rIx M.K) x (.d (.int i)) g Q := by
  rcases hx with rfl | rfl | ⟨k, rfl, h⟩
  · exact opD_ixl (opD_ixL hj hd q)
  · exact opD_ixt (opD_ixT hj hd q)
  · exact opD_ixl (opD_ixC h hj hd q)
theorem opD_ixlL {i : Int} {j : Nat} (hj : ixN ds.length i = some j) (hd : ds[j]? = some d) (q : Q (.d d) g) : opD M (rIx M.K) (.d (.lst ds)) (.d (.int i)) g Q := opD_ixl (opD_ixL hj hd q)
theorem opD_ixtT {i : Int} {j : Nat} (hj : ixN ds.length i = some j) (hd : ds[j]? = some d) (q : Q (.d d) g) : opD M (rIx M.K) (.d (.tup ds)) (.d (.int i)) g Q := opD_ixt (opD_ixT hj hd q)
theorem opD_ixcC {i : Int} {j : Nat} (h0 : g.mu[k]? = some (.pl ds)) (hj : ixN ds.length i = some j) (hd : ds[j]? = some d) (q : Q (.d d) g) : opD M (rIx M.K) (.c k) (.d (.int i)) g Q := opD_ixl (opD_ixC h0 hj hd q)
theorem opD_ixcM {ws : List W} {i : Int} {j : Nat} (h0 : g.mu[k]? = some (.ml ws)) (hj : ixN ws.length i = some j) (hd : ws[j]? = some w) (q : Q w g) : opD M (rIx M.K) (.c k) (.d (.int i)) g Q := opD_ixl (opD_ixM h0 hj hd q)
theorem ix_nat {n j : Nat} {i : Int} (hi : i = (j : Int)) (h : j < n) : ixN n i = some j := by
  subst hi
  unfold ixN
  rw [if_pos (by omega), if_pos (by omega)]
  simp
theorem ix_neg {n j : Nat} {i : Int} (hi : i = (j : Int) - (n : Int)) (h : j < n) : ixN n i = some j := by
  subst hi
  unfold ixN
  rw [if_neg (by omega), if_pos (by omega)]
  simp
end
/-! ### statements, the ends written out -/
section
variable {M : Mx} {g : G} {nx bk ct : G → Prop} {rt : W → List Cell → Prop} {s1 s2 : TS} {te : TE} {t : TT} {ta : TA}
theorem ws_seq (h : wpS M s1 g ⟨fun g1 => wpS M s2 g1 ⟨nx, rt, bk, ct⟩, rt, bk, ct⟩) : wpS M (tSeq s1 s2) g ⟨nx, rt, bk, ct⟩ := wpS_seq h
theorem ws_asg {gt : TG} (h : wpE M te g fun x g1 => wpG M gt x g1 nx) : wpS M (tAsg te gt) g ⟨nx, rt, bk, ct⟩ := wpS_asg h
theorem ws_ret (h : wpE M te g fun x g1 => rt x g1.mu) : wpS M (tRet te) g ⟨nx, rt, bk, ct⟩ := wpS_ret h
theorem ws_retN (q : rt (.d .non) g.mu) : wpS M tRetN g ⟨nx, rt, bk, ct⟩ := wpS_retN q
theorem ws_drop (h : wpE M te g fun _ g1 => nx g1) : wpS M (tDrop te) g ⟨nx, rt, bk, ct⟩ := wpS_drop h
theorem ws_next (q : nx g) : wpS M tNext g ⟨nx, rt, bk, ct⟩ := wpS_next q
theorem ws_brk (q : bk g) : wpS M tBreak g ⟨nx, rt, bk, ct⟩ := wpS_brk q
theorem ws_cont (q : ct g) : wpS M tCont g ⟨nx, rt, bk, ct⟩ := wpS_cont q
theorem ws_par {i j : Nat} {ρ : List (Option W)} {μ : List Cell} (h : wpA M ta ⟨ρ, μ⟩ fun ws g1 => ∃ a b, ws = [a, b] ∧ nx ⟨(g1.rho.set i (some a)).set j (some b), g1.mu⟩) : wpS M (tPar i j ta) ⟨ρ, μ⟩ ⟨nx, rt, bk, ct⟩ := wpS_par h
theorem ws_for {wi : TI} {gt : TG} {tb : TS} (h : wpI M wi g fun ds g1 => ∃ I : Nat → G → Prop, I 0 g1 ∧
    (∀ i d g2, ds[i]? = some d → I i g2 → wpG M gt (.d d) g2 fun g3 => wpS M tb g3 ⟨I (i + 1), rt, nx, I (i + 1)⟩) ∧ ∀ g2, I ds.length g2 → nx g2) : wpS M (tFor wi gt tb) g ⟨nx, rt, bk, ct⟩ := wpS_for h
theorem ws_aug {i : Nat} {f : Int → Int → Int} {a : Int} (hx : g.rho[i]? = some (some (.d (.int a)))) (h : wpE M te g fun y g1 => ∃ b, y = .d (.int b) ∧ nx ⟨g1.rho.set i (some (.d (.int (f a b)))), g1.mu⟩) : wpS M (tAug i te (ipI f)) g ⟨nx, rt, bk, ct⟩ := wpS_aug (b := 0) hx h
end
section
variable {M : Mx} {g g1 : G} {Q : QE} {w x y : W} {d e : D} {k : Nat} {ds es : List D} {QT : Bool → G → Prop} {te tb : TE} {ta : TA} {n : N} {F : FS}
/-! ### stepping rules that say nothing of how a value was made but what is wanted of it -/
theorem wpG_nm {i : Nat} {ρ : List (Option W)} {μ : List Cell} {QG : G → Prop} (q : QG ⟨ρ.set i (some w), μ⟩) : wpG M (gName i) w ⟨ρ, μ⟩ QG := wpG_name q
theorem opD_modG {i j : Int} (hj : 0 < j) (q : ∀ r : Int, 0 ≤ r → r < j → r = i % j → Q (.d (.int r)) g) : opD M (rI (fun _ j => 0 < j) fun i j => .int (i % j)) (.d (.int i)) (.d (.int j)) g Q :=
  opD_I (f := fun i j => i % j) hj (q _ (Int.emod_nonneg _ (by omega)) (Int.emod_lt_of_pos _ hj) rfl)
theorem opD_divG {i j : Int} (hj : 0 < j ∧ j < 2 ^ 400) (q : ∀ r : Int, r = i / j → Q (.d (.int r)) g) : opD M (rI CDivW fun i j => .int (i / j)) (.d (.int i)) (.d (.int j)) g Q :=
  opD_I (f := fun i j => i / j) (wide_div (b := 400) hj.1 (by omega) (by decide) (by decide)) (q _ rfl)
theorem opD_mulG {i j : Int} (h : -(2 ^ 400) < i ∧ i < 2 ^ 400 ∧ -(2 ^ 400) < j ∧ j < 2 ^ 400) (q : Q (.d (.int (i * j))) g) : opD M rMulA (.d (.int i)) (.d (.int j)) g Q :=
  opD_mulI (wide_mul (a := 400) (b := 400) (by omega) (by omega) (by decide) (by decide) (by decide)) q
theorem opD_powG {i j : Int} (h : -(2 ^ 400) < i ∧ i < 2 ^ 400 ∧ 0 ≤ j ∧ j ≤ 100) (q : Q (.d (.int (i ^ j.toNat))) g) : opD M (rI CPw fun i j => .int (i ^ j.toNat)) (.d (.int i)) (.d (.int j)) g Q :=
  opD_I (f := fun i j => i ^ j.toNat) ⟨h.2.2.1, h.2.2.2, by
    have : (2 : Nat) ^ 400 ≤ 2 ^ 1000 := Nat.pow_le_pow_right (by decide) (by decide)
    have h1 := h.1
    have h2 := h.2.1
    omega⟩ q
theorem opD_powC {i j r : Int} (h : CPw i j) (e : i ^ j.toNat = r) (q : Q (.d (.int r)) g) : opD M (rI CPw fun i j => .int (i ^ j.toNat)) (.d (.int i)) (.d (.int j)) g Q := by
  subst e
  exact opD_I (f := fun i j => i ^ j.toNat) h q
def litW (ws : List W) (q : List D → Prop) : Prop := ∃ ds, asD ws = some ds ∧ ds.length ≤ 1000 ∧ q ds
theorem litW_mk {ws : List W} {q : List D → Prop} (h : asD ws = some ds) (hl : Nat.ble ds.length 1000 = true) (hq : q ds) : litW ws q := ⟨ds, h, Nat.le_of_ble_eq_true hl, hq⟩
/-- a display: a tuple, a list as a tree, a list as a cell -/
theorem wpE_tupA (h : wpA M ta g fun ws g1 => litW ws fun ds => Q (.d (.tup ds)) g1) : wpE M (tTup ta) g Q := wpE_tupD h
theorem wpE_lstA (h : wpA M ta g fun ws g1 => litW ws fun ds => Q (.d (.lst ds)) g1) : wpE M (tLst ta) g Q := wpE_lstD h
theorem wpE_lstB (h : wpA M ta g fun ws g1 => litW ws fun ds => Q (.c g1.mu.length) ⟨g1.rho, g1.mu ++ [.pl ds]⟩) : wpE M (tLst ta) g Q := wpE_lstP h
/-- x[i] = w -/
def setW (x y w : W) (g : G) (QG : G → Prop) : Prop := (∃ k ds i j d, x = .c k ∧ g.mu[k]? = some (.pl ds) ∧ y = .d (.int i) ∧ ixN ds.length i = some j ∧ w = .d d ∧ QG ⟨g.rho, g.mu.set k (.pl (ds.set j d))⟩) ∨
  ∃ k ws i j, x = .c k ∧ g.mu[k]? = some (.ml ws) ∧ y = .d (.int i) ∧ ixN ws.length i = some j ∧ QG ⟨g.rho, g.mu.set k (.ml (ws.set j w))⟩
theorem setW_pl {i : Int} {j : Nat} {ρ : List (Option W)} {μ : List Cell} {QG : G → Prop} (h : μ[k]? = some (.pl ds)) (hj : ixN ds.length i = some j) (q : QG ⟨ρ, μ.set k (.pl (ds.set j d))⟩) : setW (.c k) (.d (.int i)) (.d d) ⟨ρ, μ⟩ QG :=
  .inl ⟨k, ds, i, j, d, rfl, h, rfl, hj, rfl, q⟩
theorem setW_ml {ws : List W} {i : Int} {j : Nat} {ρ : List (Option W)} {μ : List Cell} {QG : G → Prop} (h : μ[k]? = some (.ml ws)) (hj : ixN ws.length i = some j) (q : QG ⟨ρ, μ.set k (.ml (ws.set j w))⟩) : setW (.c k) (.d (.int i)) w ⟨ρ, μ⟩ QG :=
  .inr ⟨k, ws, i, j, rfl, h, rfl, hj, q⟩
theorem wpG_set {to ti : TE} {QG : G → Prop} (h : wpE M to g fun x g1 => wpE M ti g1 fun y g2 => setW x y w g2 QG) : wpG M (gSub to ti rSetL) w g QG :=
  wpG_sub (wpE_mono h fun x g1 h1 => wpE_mono h1 fun y g2 h2 => fun Hi H θ σ f e v1 v2 v3 r1 r2 r3 R kk => by
    rcases h2 with ⟨k, ds, i, j, d, ex, h0, ey, hj, ew, q⟩ | ⟨k, ws, i, j, ex, h0, ey, hj, q⟩
    · subst ex ey ew
      cases DR.as_int r2
      obtain ⟨a, e1, rfl⟩ := r1
      obtain ⟨e0, xs, e2, e3⟩ := f.mf.cell k a _ e1 h0
      have hc : CellAt M.K Hi θ (upd H a (.lst (xs.set j v3))) a (.pl (ds.set j d)) := ⟨e0, _, upd_same, e3.set j r3⟩
      exact ⟨a, xs, i, j, rfl, rfl, e2, by rw [e3.1]; exact hj, kk _ _ _ θ q (f.go (f.mf.setC e1 h0 (by intro z; cases z) hc) (Go.setC f.mf e1)) (Go.setC f.mf e1)⟩
    · subst ex ey
      cases DR.as_int r2
      obtain ⟨a, e1, rfl⟩ := r1
      obtain ⟨e0, xs, e2, e3⟩ := f.mf.cell k a _ e1 h0
      have hc : CellAt M.K Hi θ (upd H a (.lst (xs.set j v3))) a (.ml (ws.set j w)) := ⟨e0, _, upd_same, e3.set j r3⟩
      exact ⟨a, xs, i, j, rfl, rfl, e2, by rw [e3.1]; exact hj, kk _ _ _ θ q (f.go (f.mf.setC e1 h0 (by intro z; cases z) hc) (Go.setC f.mf e1)) (Go.setC f.mf e1)⟩)
theorem opD_ixR {i : Int} (h0 : 0 ≤ i) (h1 : i < (ds.length : Int)) (q : ∀ (j : Nat) (d : D), i = (j : Int) → ds[j]? = some d → Q (.d d) g) : opD M (rIx M.K) (.d (.lst ds)) (.d (.int i)) g Q := by
  have hj : i.toNat < ds.length := by omega
  exact opD_ixlL (j := i.toNat) (ix_nat (by omega) hj) (List.getElem?_eq_getElem hj) (q _ _ (by omega) (List.getElem?_eq_getElem hj))
theorem opD_ixE {i : Int} (h0 : 0 ≤ i) (h1 : i < (ds.length : Int)) (q : ∀ d, d ∈ ds → Q (.d d) g) : opD M (rIx M.K) (.d (.lst ds)) (.d (.int i)) g Q := opD_ixR h0 h1 fun j d _ hd => q d (List.mem_of_getElem? hd)
end
/-! ### calls that take one list along, their first argument -/
section
variable {M : Mx} {Q : QE} {F : FS} {k : Nat} {ds : List D} {vs : List D} {ρ : List (Option W)} {μ : List Cell}
def after1 (μ : List Cell) (k : Nat) (Q : W → List Cell → Prop) : W → List Cell → Prop := fun w μ1 => match μ1 with
  | c :: cs => Q (w.ren (ren [k] μ.length)) (μ.set k (c.ren (ren [k] μ.length)) ++ cs.map (Cell.ren (ren [k] μ.length)))
  | [] => False
def afterX1 (μ : List Cell) (k : Nat) (Q : Xc → List Cell → Prop) : Xc → List Cell → Prop := fun w μ1 => match μ1 with
  | c :: cs => Q w (μ.set k (c.ren (ren [k] μ.length)) ++ cs.map (Cell.ren (ren [k] μ.length)))
  | [] => False
theorem call1 {ws : List W} (h : μ[k]? = some (.pl ds)) (e : ws = .c k :: vs.map W.d) (hF : ∀ Q1 X1, (∀ w μ1, after1 μ k (fun w μ => Q w ⟨ρ, μ⟩) w μ1 → Q1 w μ1) → (∀ w μ1, afterX1 μ k (fun w μ => M.qx w ⟨ρ, μ⟩) w μ1 → X1 w μ1) → F (.c 0 :: vs.map W.d) [.pl ds] Q1 X1) : callD M F ws ⟨ρ, μ⟩ Q := by
  subst e
  have hl := (List.getElem?_eq_some_iff.mp h).1
  have e : μ.getD k .dead = .pl ds := by rw [List.getD_eq_getElem?_getD, h]; rfl
  have e1 : [k].idxOf k = 0 := by simp
  have mg : ∀ c cs, merge μ [k] (c :: cs) = μ.set k (c.ren (ren [k] μ.length)) ++ cs.map (Cell.ren (ren [k] μ.length)) := fun c cs => by
    unfold merge
    simp [wput]
  refine .inl ⟨[k], ?_, ?_⟩
  · unfold okIo
    rw [List.all_cons]
    show (_ && ((_ && (μ.getD k .dead).inIo [k]) && _) && _) = true
    rw [e]
    simp [hl, Cell.inIo, W.inIo]
  · show F ((W.c k :: vs.map W.d).map (W.inv [k])) [(μ.getD k .dead).inv [k]] _ _
    rw [e]
    show F (W.c ([k].idxOf k) :: (vs.map W.d).map (W.inv [k])) [.pl ds] _ _
    rw [e1, show (vs.map W.d).map (W.inv [k]) = vs.map W.d by simp [List.map_map, Function.comp_def, W.inv, W.ren]]
    refine hF _ _ (fun w μ1 q => ?_) (fun w μ1 q => ?_)
    · cases μ1 with
      | nil => exact q.elim
      | cons c cs =>
        show Q _ ⟨ρ, merge μ [k] (c :: cs)⟩
        rw [mg]
        exact q
    · cases μ1 with
      | nil => exact q.elim
      | cons c cs =>
        show M.qx _ ⟨ρ, merge μ [k] (c :: cs)⟩
        rw [mg]
        exact q
theorem after1_d {Q : W → List Cell → Prop} {d : D} {es : List D} (q : Q (.d d) (μ.set k (.pl es))) : after1 μ k Q (.d d) [.pl es] := by
  show Q (.d d) (μ.set k (.pl es) ++ [])
  rw [List.append_nil]
  exact q
theorem after1_c {Q : W → List Cell → Prop} {es fs : List D} (q : Q (.c μ.length) (μ.set k (.pl es) ++ [.pl fs])) : after1 μ k Q (.c 1) [.pl es, .pl fs] := by
  show Q (.c (ren [k] μ.length 1)) (μ.set k (.pl es) ++ [.pl fs])
  rw [show ren [k] μ.length 1 = μ.length by simp [ren]]
  exact q
theorem ret1 {Q : W → List Cell → Prop} {d : D} (h : μ[0]? = some (.pl ds)) (q : Q (.d d) [.pl ds]) : retD 1 Q (.d d) μ := by
  have hl := (List.getElem?_eq_some_iff.mp h).1
  have e : μ.getD 0 .dead = .pl ds := by rw [List.getD_eq_getElem?_getD, h]; rfl
  refine ret_at [] ?_ ?_
  · show okIo [0] [.d d] μ = true
    unfold okIo
    rw [List.all_cons, e]
    simp [hl, Cell.inIo, W.inIo]
  · show Q (.d d) [(μ.getD 0 .dead).inv [0]]
    rw [e]
    exact q
/-- a call of trees only, that hands back a tree | a new list -/
theorem callT {ws : List W} {vs : List D} (e : asD ws = some vs) (hF : ∀ Q1 X1, (∀ d, Q (.d d) ⟨ρ, μ⟩ → Q1 (.d d) []) → (∀ ds, Q (.c μ.length) ⟨ρ, μ ++ [.pl ds]⟩ → Q1 (.c 0) [.pl ds]) → (∀ x, M.qx x ⟨ρ, μ⟩ → X1 x []) → F (vs.map W.d) [] Q1 X1) : callD M F ws ⟨ρ, μ⟩ Q := by
  refine call0 (asD_eq e) (hF _ _ (fun d q => ?_) (fun ds q => ?_) fun x q => ?_)
  · show Q (.d d) ⟨ρ, μ ++ []⟩
    rw [List.append_nil]
    exact q
  · exact q
  · show M.qx x ⟨ρ, μ ++ []⟩
    rw [List.append_nil]
    exact q
end
section
variable {M : Mx} {g : G} {Q : QE} {x y : W} {d : D} {ds : List D} {k : Nat}
theorem opD_inTt (hx : d.flat = true) (hf : ds.all D.flat = true) (h : inD d ds = true) (q : Q (.d (.bl true)) g) : opD M (rInA M.K false) (.d d) (.d (.tup ds)) g Q := opD_inA (opD_inT hx hf (by rw [h]; exact q))
theorem opD_inTf (hx : d.flat = true) (hf : ds.all D.flat = true) (h : inD d ds = false) (q : Q (.d (.bl false)) g) : opD M (rInA M.K false) (.d d) (.d (.tup ds)) g Q := opD_inA (opD_inT hx hf (by rw [h]; exact q))
theorem opD_inLt (hx : d.flat = true) (hf : ds.all D.flat = true) (h : inD d ds = true) (q : Q (.d (.bl true)) g) : opD M (rInA M.K false) (.d d) (.d (.lst ds)) g Q := opD_inA (opD_inL hx .t hf (by rw [h]; exact q))
theorem opD_inLf (hx : d.flat = true) (hf : ds.all D.flat = true) (h : inD d ds = false) (q : Q (.d (.bl false)) g) : opD M (rInA M.K false) (.d d) (.d (.lst ds)) g Q := opD_inA (opD_inL hx .t hf (by rw [h]; exact q))
theorem opD_ninTt (hx : d.flat = true) (hf : ds.all D.flat = true) (h : inD d ds = true) (q : Q (.d (.bl false)) g) : opD M (rInA M.K true) (.d d) (.d (.tup ds)) g Q := opD_inA (opD_inT hx hf (by rw [h]; exact q))
theorem opD_ninTf (hx : d.flat = true) (hf : ds.all D.flat = true) (h : inD d ds = false) (q : Q (.d (.bl true)) g) : opD M (rInA M.K true) (.d d) (.d (.tup ds)) g Q := opD_inA (opD_inT hx hf (by rw [h]; exact q))
theorem opD_ninLt (hx : d.flat = true) (hf : ds.all D.flat = true) (h : inD d ds = true) (q : Q (.d (.bl false)) g) : opD M (rInA M.K true) (.d d) (.d (.lst ds)) g Q := opD_inA (opD_inL hx .t hf (by rw [h]; exact q))
theorem opD_ninLf (hx : d.flat = true) (hf : ds.all D.flat = true) (h : inD d ds = false) (q : Q (.d (.bl true)) g) : opD M (rInA M.K true) (.d d) (.d (.lst ds)) g Q := opD_inA (opD_inL hx .t hf (by rw [h]; exact q))
end
/-! ### isinstance against a built-in class, by the kind of the tree -/
def D.isI : D → Bool | .int _ => true | .bl _ => true | _ => false
def D.isB : D → Bool | .bl _ => true | _ => false
def D.isS : D → Bool | .str _ => true | _ => false
def D.isL : D → Bool | .lst _ => true | _ => false
def D.isT : D → Bool | .tup _ => true | _ => false
def D.isD : D → Bool | .dic _ => true | _ => false
theorem tyn_non : D.non.tyn ≠ "" := by decide
theorem tyn_bl {b : Bool} : (D.bl b).tyn ≠ "" := show ("bool" : String) ≠ "" by decide
theorem tyn_int {b : Int} : (D.int b).tyn ≠ "" := show ("int" : String) ≠ "" by decide
theorem tyn_str {b : Str} : (D.str b).tyn ≠ "" := show ("str" : String) ≠ "" by decide
theorem tyn_lst {b : List D} : (D.lst b).tyn ≠ "" := show ("list" : String) ≠ "" by decide
theorem tyn_tup {b : List D} : (D.tup b).tyn ≠ "" := show ("tuple" : String) ≠ "" by decide
theorem tyn_dic {b : List (Key × D)} : (D.dic b).tyn ≠ "" := show ("dict" : String) ≠ "" by decide
theorem D.tyn_of {d : D} {f : D → Bool} (h : f d = true) (hf : ∀ e : D, e.tyn = "" → f e = false) : d.tyn ≠ "" := fun z => by
  rw [hf d z] at h
  cases h
theorem kit_NoneType_int : kitB "NoneType" "int" = some false := by decide +kernel
theorem kit_NoneType_bool : kitB "NoneType" "bool" = some false := by decide +kernel
theorem kit_NoneType_str : kitB "NoneType" "str" = some false := by decide +kernel
theorem kit_NoneType_list : kitB "NoneType" "list" = some false := by decide +kernel
theorem kit_NoneType_tuple : kitB "NoneType" "tuple" = some false := by decide +kernel
theorem kit_NoneType_dict : kitB "NoneType" "dict" = some false := by decide +kernel
theorem kit_bool_int : kitB "bool" "int" = some true := by decide +kernel
theorem kit_bool_bool : kitB "bool" "bool" = some true := by decide +kernel
theorem kit_bool_str : kitB "bool" "str" = some false := by decide +kernel
theorem kit_bool_list : kitB "bool" "list" = some false := by decide +kernel
theorem kit_bool_tuple : kitB "bool" "tuple" = some false := by decide +kernel
theorem kit_bool_dict : kitB "bool" "dict" = some false := by decide +kernel
theorem kit_int_int : kitB "int" "int" = some true := by decide +kernel
theorem kit_int_bool : kitB "int" "bool" = some false := by decide +kernel
theorem kit_int_str : kitB "int" "str" = some false := by decide +kernel
theorem kit_int_list : kitB "int" "list" = some false := by decide +kernel
theorem kit_int_tuple : kitB "int" "tuple" = some false := by decide +kernel
theorem kit_int_dict : kitB "int" "dict" = some false := by decide +kernel
theorem kit_str_int : kitB "str" "int" = some false := by decide +kernel
theorem kit_str_bool : kitB "str" "bool" = some false := by decide +kernel
theorem kit_str_str : kitB "str" "str" = some true := by decide +kernel
theorem kit_str_list : kitB "str" "list" = some false := by decide +kernel
theorem kit_str_tuple : kitB "str" "tuple" = some false := by decide +kernel
theorem kit_str_dict : kitB "str" "dict" = some false := by decide +kernel
theorem kit_list_int : kitB "list" "int" = some false := by decide +kernel
theorem kit_list_bool : kitB "list" "bool" = some false := by decide +kernel
theorem kit_list_str : kitB "list" "str" = some false := by decide +kernel
theorem kit_list_list : kitB "list" "list" = some true := by decide +kernel
theorem kit_list_tuple : kitB "list" "tuple" = some false := by decide +kernel
theorem kit_list_dict : kitB "list" "dict" = some false := by decide +kernel
theorem kit_tuple_int : kitB "tuple" "int" = some false := by decide +kernel
theorem kit_tuple_bool : kitB "tuple" "bool" = some false := by decide +kernel
theorem kit_tuple_str : kitB "tuple" "str" = some false := by decide +kernel
theorem kit_tuple_list : kitB "tuple" "list" = some false := by decide +kernel
theorem kit_tuple_tuple : kitB "tuple" "tuple" = some true := by decide +kernel
theorem kit_tuple_dict : kitB "tuple" "dict" = some false := by decide +kernel
theorem kit_dict_int : kitB "dict" "int" = some false := by decide +kernel
theorem kit_dict_bool : kitB "dict" "bool" = some false := by decide +kernel
theorem kit_dict_str : kitB "dict" "str" = some false := by decide +kernel
theorem kit_dict_list : kitB "dict" "list" = some false := by decide +kernel
theorem kit_dict_tuple : kitB "dict" "tuple" = some false := by decide +kernel
theorem kit_dict_dict : kitB "dict" "dict" = some true := by decide +kernel
section
variable {M : Mx} {g : G} {Q : QE} {x : W} {d : D}
theorem isi_I (hx : Val g x d) (hd : d.tyn ≠ "") (q : Q (.d (.bl d.isI)) g) : cbD M (rIsi M.K) [x, .d (.ty "int")] g Q := by
  refine cbD_isi hx hd (b := d.isI) ?_ q
  cases d
  case non => exact kit_NoneType_int
  case bl => exact kit_bool_int
  case int => exact kit_int_int
  case str => exact kit_str_int
  case lst => exact kit_list_int
  case tup => exact kit_tuple_int
  case dic => exact kit_dict_int
  all_goals exact absurd rfl hd
theorem isi_It (h : d.isI = true) (q : Q (.d (.bl true)) g) : cbD M (rIsi M.K) [.d d, .d (.ty "int")] g Q := isi_I .t (D.tyn_of h fun e z => by cases e <;> first | rfl | (simp [D.tyn] at z)) (by rw [h]; exact q)
theorem isi_If (hd : d.tyn ≠ "") (h : d.isI = false) (q : Q (.d (.bl false)) g) : cbD M (rIsi M.K) [.d d, .d (.ty "int")] g Q := isi_I .t hd (by rw [h]; exact q)
theorem isi_B (hx : Val g x d) (hd : d.tyn ≠ "") (q : Q (.d (.bl d.isB)) g) : cbD M (rIsi M.K) [x, .d (.ty "bool")] g Q := by
  refine cbD_isi hx hd (b := d.isB) ?_ q
  cases d
  case non => exact kit_NoneType_bool
  case bl => exact kit_bool_bool
  case int => exact kit_int_bool
  case str => exact kit_str_bool
  case lst => exact kit_list_bool
  case tup => exact kit_tuple_bool
  case dic => exact kit_dict_bool
  all_goals exact absurd rfl hd
theorem isi_Bt (h : d.isB = true) (q : Q (.d (.bl true)) g) : cbD M (rIsi M.K) [.d d, .d (.ty "bool")] g Q := isi_B .t (D.tyn_of h fun e z => by cases e <;> first | rfl | (simp [D.tyn] at z)) (by rw [h]; exact q)
theorem isi_Bf (hd : d.tyn ≠ "") (h : d.isB = false) (q : Q (.d (.bl false)) g) : cbD M (rIsi M.K) [.d d, .d (.ty "bool")] g Q := isi_B .t hd (by rw [h]; exact q)
theorem isi_S (hx : Val g x d) (hd : d.tyn ≠ "") (q : Q (.d (.bl d.isS)) g) : cbD M (rIsi M.K) [x, .d (.ty "str")] g Q := by
  refine cbD_isi hx hd (b := d.isS) ?_ q
  cases d
  case non => exact kit_NoneType_str
  case bl => exact kit_bool_str
  case int => exact kit_int_str
  case str => exact kit_str_str
  case lst => exact kit_list_str
  case tup => exact kit_tuple_str
  case dic => exact kit_dict_str
  all_goals exact absurd rfl hd
theorem isi_St (h : d.isS = true) (q : Q (.d (.bl true)) g) : cbD M (rIsi M.K) [.d d, .d (.ty "str")] g Q := isi_S .t (D.tyn_of h fun e z => by cases e <;> first | rfl | (simp [D.tyn] at z)) (by rw [h]; exact q)
theorem isi_Sf (hd : d.tyn ≠ "") (h : d.isS = false) (q : Q (.d (.bl false)) g) : cbD M (rIsi M.K) [.d d, .d (.ty "str")] g Q := isi_S .t hd (by rw [h]; exact q)
theorem isi_L (hx : Val g x d) (hd : d.tyn ≠ "") (q : Q (.d (.bl d.isL)) g) : cbD M (rIsi M.K) [x, .d (.ty "list")] g Q := by
  refine cbD_isi hx hd (b := d.isL) ?_ q
  cases d
  case non => exact kit_NoneType_list
  case bl => exact kit_bool_list
  case int => exact kit_int_list
  case str => exact kit_str_list
  case lst => exact kit_list_list
  case tup => exact kit_tuple_list
  case dic => exact kit_dict_list
  all_goals exact absurd rfl hd
theorem isi_Lt (h : d.isL = true) (q : Q (.d (.bl true)) g) : cbD M (rIsi M.K) [.d d, .d (.ty "list")] g Q := isi_L .t (D.tyn_of h fun e z => by cases e <;> first | rfl | (simp [D.tyn] at z)) (by rw [h]; exact q)
theorem isi_Lf (hd : d.tyn ≠ "") (h : d.isL = false) (q : Q (.d (.bl false)) g) : cbD M (rIsi M.K) [.d d, .d (.ty "list")] g Q := isi_L .t hd (by rw [h]; exact q)
theorem isi_T (hx : Val g x d) (hd : d.tyn ≠ "") (q : Q (.d (.bl d.isT)) g) : cbD M (rIsi M.K) [x, .d (.ty "tuple")] g Q := by
  refine cbD_isi hx hd (b := d.isT) ?_ q
  cases d
  case non => exact kit_NoneType_tuple
  case bl => exact kit_bool_tuple
  case int => exact kit_int_tuple
  case str => exact kit_str_tuple
  case lst => exact kit_list_tuple
  case tup => exact kit_tuple_tuple
  case dic => exact kit_dict_tuple
  all_goals exact absurd rfl hd
theorem isi_Tt (h : d.isT = true) (q : Q (.d (.bl true)) g) : cbD M (rIsi M.K) [.d d, .d (.ty "tuple")] g Q := isi_T .t (D.tyn_of h fun e z => by cases e <;> first | rfl | (simp [D.tyn] at z)) (by rw [h]; exact q)
theorem isi_Tf (hd : d.tyn ≠ "") (h : d.isT = false) (q : Q (.d (.bl false)) g) : cbD M (rIsi M.K) [.d d, .d (.ty "tuple")] g Q := isi_T .t hd (by rw [h]; exact q)
theorem isi_D (hx : Val g x d) (hd : d.tyn ≠ "") (q : Q (.d (.bl d.isD)) g) : cbD M (rIsi M.K) [x, .d (.ty "dict")] g Q := by
  refine cbD_isi hx hd (b := d.isD) ?_ q
  cases d
  case non => exact kit_NoneType_dict
  case bl => exact kit_bool_dict
  case int => exact kit_int_dict
  case str => exact kit_str_dict
  case lst => exact kit_list_dict
  case tup => exact kit_tuple_dict
  case dic => exact kit_dict_dict
  all_goals exact absurd rfl hd
theorem isi_Dt (h : d.isD = true) (q : Q (.d (.bl true)) g) : cbD M (rIsi M.K) [.d d, .d (.ty "dict")] g Q := isi_D .t (D.tyn_of h fun e z => by cases e <;> first | rfl | (simp [D.tyn] at z)) (by rw [h]; exact q)
theorem isi_Df (hd : d.tyn ≠ "") (h : d.isD = false) (q : Q (.d (.bl false)) g) : cbD M (rIsi M.K) [.d d, .d (.ty "dict")] g Q := isi_D .t hd (by rw [h]; exact q)
end
/-! ### a display times an int -/
section
variable {M : Mx} {g : G} {Q : QE} {x y : W} {d : D} {ds : List D} {ta : TA} {tb : TE}
def repW (ds : List D) (y : W) (g : G) (Q : QE) : Prop := ∃ n : Int, y = .d (.int n) ∧ -(2 ^ 40) ≤ n ∧ n < 2 ^ 40 ∧ ds.length * n.toNat ≤ 16777216 ∧ (Q (.d (.lst (List.replicate n.toNat ds).flatten)) g ∨ Q (.c g.mu.length) ⟨g.rho, g.mu ++ [.pl (List.replicate n.toNat ds).flatten]⟩)
theorem repW_t {n : Int} (h : -(2 ^ 40) ≤ n ∧ n < 2 ^ 40) (hz : ds.length * n.toNat ≤ 16777216) (q : Q (.d (.lst (List.replicate n.toNat ds).flatten)) g) : repW ds (.d (.int n)) g Q := ⟨n, rfl, h.1, h.2, hz, .inl q⟩
theorem repW_c {n : Int} (h : -(2 ^ 40) ≤ n ∧ n < 2 ^ 40) (hz : ds.length * n.toNat ≤ 16777216) (q : Q (.c g.mu.length) ⟨g.rho, g.mu ++ [.pl (List.replicate n.toNat ds).flatten]⟩) : repW ds (.d (.int n)) g Q := ⟨n, rfl, h.1, h.2, hz, .inr q⟩
theorem wpE_repA (h : wpA M ta g fun ws g1 => litW ws fun ds => wpE M tb g1 fun y g3 => repW ds y g3 Q) : wpE M (tOp rMulA (tLst ta) tb) g Q :=
  wpE_rep fun Hi H θ σ f e R k => h Hi H θ σ f e R fun ws g' vs Hi' H' θ' ⟨ds, hw, hl, q⟩ f' r o => k ws g' vs Hi' H' θ' ⟨ds, g', by rw [asD_eq hw]; exact .all ds, hl, q⟩ f' r o
end
/-- a call that reads its arguments, and hands back something flat -/
theorem callR {M : Mx} {F : FS} {ws : List W} {g : G} {Q : QE} {ds : List D} (hv : ValAll g ws ds) (hF : ∀ Q1 X1, (∀ d, d.flat = true → Q (.d d) g → Q1 (.d d) []) → (∀ x : Xc, x.flat = true → M.qx x g → X1 x []) → F (ds.map W.d) [] Q1 X1) : callD M F ws g Q :=
  .inr ⟨ds, hv, hF _ _ (fun d h q => ⟨d, rfl, h, q⟩) fun x h q => ⟨h, q⟩⟩
theorem va_nil {g : G} : ValAll g [] [] := ⟨rfl, fun i w d h => by simp at h⟩
theorem va_cons {g : G} {w : W} {d : D} {ws : List W} {ds : List D} (h : Val g w d) (t : ValAll g ws ds) : ValAll g (w :: ws) (d :: ds) := ⟨by simp [t.1], fun i u e a b => by
  cases i with
  | zero =>
    simp at a b
    subst a b
    exact h
  | succ i => exact t.2 i u e (by simpa using a) (by simpa using b)⟩
end DL

namespace DL
open PySem PySem.Spec PyProof.Rows L2

/-! ### dicts with ints and texts as keys -/
theorem Fit.junk {K : PySem.W.Frag} {Hi H : Hp} {θ : List Addr} {σ : L2.St} {g : G} {p : Addr} {o : HO} (f : Fit K Hi H θ σ g) (hp : H p = none) : Fit K Hi (upd H p o) θ σ g ∧ Go Hi H θ Hi (upd H p o) θ ∧ p ∉ θ ∧ Hi p = none := by
  have hpi : Hi p = none := f.mf.sub.none hp
  have m3 : MF K Hi (upd H p o) θ g.mu := by
    refine ⟨f.mf.sub.mut hpi, f.mf.len, f.mf.nd, fun a ha => ?_, fun j a c h1 h2 => ?_⟩
    · by_cases q : a = p
      · subst q
        rw [upd_same]
        exact fun z => nomatch z
      · rw [upd_ne q]
        exact f.mf.there a ha
    · have hne : a ≠ p := fun q => f.mf.there a (List.mem_of_getElem? h1) (by rw [q]; exact hp)
      refine (f.mf.cell j a c h1 h2).mono (Sub.refl _) ?_ ⟨[], by simp⟩ (upd_ne hne)
      by_cases q : c = .dead
      · exact .inl q
      · exact .inr ((f.mf.cell j a c h1 h2).no q)
  exact ⟨⟨m3, f.len, f.slot⟩, ⟨⟨[], by simp, fun _ h => by simp at h⟩, Sub.refl _, fun _ _ h => .inl h, fun a o h _ => by rw [upd_ne (ne_of_none h hp)]; exact h, m3.there⟩, fun q => f.mf.there p q hp, hpi⟩
def kD : Key → D
  | .inl i => .int i
  | .inr s => .str s
theorem kD_kV {K : PySem.W.Frag} {H : Hp} {k : Key} {v : V} (h : DR K H v (kD k)) : v = kV k := by
  cases k with
  | inl i => exact DR.as_int h
  | inr s => exact DR.as_str h
def valD (kvs : List (Key × D)) (k : Key) : Option D := (kvs.find? fun kv => decide (kv.1 = k)).map (·.2)
theorem DRk.val {K : PySem.W.Frag} {H : Hp} : ∀ {ks : List (Key × V)} {ds : List (Key × D)}, DRk K H ks ds → ∀ k : Key, (∀ d, valD ds k = some d → ∃ v, valV ks k = some v ∧ DR K H v d) ∧ (valD ds k = none → valV ks k = none)
  | [], [], _, k => ⟨fun d h => by simp [valD] at h, fun _ => rfl⟩
  | [], _ :: _, h, _ => by simp [DRk] at h
  | _ :: _, [], h, _ => by simp [DRk] at h
  | (k1, v) :: ks, (k2, d) :: ds, h, k => by
    obtain ⟨h1, h2⟩ := h
    simp only [List.map_cons, List.cons.injEq] at h1
    obtain ⟨rfl, h1⟩ := h1
    have h3 : DR K H v d := h2.2 0 v d rfl rfl
    have h4 : DRs K H (ks.map (·.2)) (ds.map (·.2)) := ⟨by simpa using h2.1, fun i v d a b => h2.2 (i + 1) v d (by simpa using a) (by simpa using b)⟩
    have ih := DRk.val (K := K) (H := H) (ks := ks) (ds := ds) ⟨h1, h4⟩ k
    by_cases q : k1 = k
    · subst q
      refine ⟨fun e he => ?_, fun he => ?_⟩
      · simp [valD] at he
        subst he
        exact ⟨v, by simp [valV], h3⟩
      · simp [valD] at he
    · have e1 : valD ((k1, d) :: ds) k = valD ds k := by simp [valD, List.find?_cons, q]
      have e2 : valV ((k1, v) :: ks) k = valV ks k := by simp [valV, List.find?_cons, q]
      rw [e1, e2]
      exact ih
theorem mergeK_nodup : ∀ (kvs acc : List (Key × V)), ((acc ++ kvs).map (·.1)).Nodup → mergeK acc kvs = acc ++ kvs
  | [], acc, _ => by simp [mergeK]
  | p :: r, acc, h => by
    have e : putK acc p.1 p.2 = acc ++ [p] := by
      unfold putK
      rw [if_neg]
      intro z
      simp only [List.any_eq_true, decide_eq_true_eq] at z
      obtain ⟨q, hq, e⟩ := z
      rw [List.map_append, List.map_cons, List.nodup_append] at h
      exact h.2.2 q.1 (List.mem_map.mpr ⟨q, hq, rfl⟩) p.1 List.mem_cons_self e
    show mergeK (putK acc p.1 p.2) r = _
    rw [e, mergeK_nodup r (acc ++ [p]) (by simpa using h)]
    simp
def wpPs (M : Mx) (trs : List (TE × TE)) (g : G) (Q : List (W × W) → G → Prop) : Prop := match trs with
  | [] => Q [] g
  | (tk, tv) :: r => wpE M tk g fun x g1 => wpE M tv g1 fun y g2 => wpPs M r g2 fun ps g3 => Q ((x, y) :: ps) g3
theorem wpPs_run {M : Mx} : ∀ {trs : List (TE × TE)} {g : G} {Q : List (W × W) → G → Prop}, wpPs M trs g Q → ∀ {Hi H : Hp} {θ : List Addr} {σ : L2.St}, Fit M.K Hi H θ σ g → XOk M Hi H θ → ∀ R : List (V × V) → Hp → Prop,
    (∀ ws g' vs Hi' H' θ', Q ws g' → Fit M.K Hi' H' θ' σ g' → WRs M.K Hi' θ' (vs.map (·.1)) (ws.map (·.1)) → WRs M.K Hi' θ' (vs.map (·.2)) (ws.map (·.2)) → Go Hi H θ Hi' H' θ' → R vs H') → tPairs trs σ H R
  | [], g, Q, h, Hi, H, θ, σ, f, e, R, k => k [] g [] Hi H θ h f .nil .nil (Go.refl f.mf)
  | (tk, tv) :: r, g, Q, h, Hi, H, θ, σ, f, e, R, k => by
    refine (show wpE M tk g _ from h) Hi H θ σ f e _ fun x g1 v Hi1 H1 θ1 hx f1 rx o1 => ?_
    refine hx Hi1 H1 θ1 σ f1 (e.go o1) _ fun y g2 u Hi2 H2 θ2 hy f2 ry o2 => ?_
    exact wpPs_run hy f2 ((e.go o1).go o2) _ fun ws g' vs Hi' H' θ' q f' r1 r2 o3 =>
      k ((x, y) :: ws) g' ((v, u) :: vs) Hi' H' θ' q f' (.cons ((rx.go o2).go o3) r1) (.cons (ry.go o3) r2) ((o1.trans o2).trans o3)
section
variable {M : Mx} {g g1 : G} {Q : QE} {w x y : W} {d e : D} {k : Nat} {ds es : List D} {te tb td ty : TE} {ta : TA} {trs : List (TE × TE)}
theorem map_of_pairs : ∀ {vs : List (V × V)} {K : PySem.W.Frag} {Hi : Hp} {θ : List Addr} {kds : List (Key × D)}, WRs K Hi θ (vs.map (·.1)) (kds.map fun kv => W.d (kD kv.1)) → WRs K Hi θ (vs.map (·.2)) (kds.map fun kv => W.d kv.2) →
    ∃ kvs : List (Key × V), vs = kvs.map (fun kv => (kV kv.1, kv.2)) ∧ DRk K Hi kvs kds
  | [], K, Hi, θ, [], _, _ => ⟨[], rfl, rfl, .nil⟩
  | [], K, Hi, θ, _ :: _, h, _ => absurd h.1 (by simp)
  | _ :: _, K, Hi, θ, [], h, _ => absurd h.1 (by simp)
  | (v, u) :: vs, K, Hi, θ, (k, d) :: kds, h1, h2 => by
    have a1 : DR K Hi v (kD k) := h1.2 0 v (.d (kD k)) rfl rfl
    have a2 : DR K Hi u d := h2.2 0 u (.d d) rfl rfl
    obtain ⟨kvs, e1, e2, e3⟩ := map_of_pairs (vs := vs) (kds := kds) (K := K) (Hi := Hi) (θ := θ) ⟨by simpa using h1.1, fun i v w a b => h1.2 (i + 1) v w (by simpa using a) (by simpa using b)⟩ ⟨by simpa using h2.1, fun i v w a b => h2.2 (i + 1) v w (by simpa using a) (by simpa using b)⟩
    refine ⟨(k, u) :: kvs, by rw [e1, kD_kV a1]; rfl, by simp [e2], ?_⟩
    exact .cons a2 e3
/-- {k: v, ..}, a tree -/
theorem wpE_disp (h : wpPs M trs g fun ps g1 => ∃ kds : List (Key × D), ps = kds.map (fun kv => (W.d (kD kv.1), W.d kv.2)) ∧ kds.length ≤ 15 ∧ (kds.map (·.1)).Nodup ∧ Q (.d (.dic kds)) g1) : wpE M (tDisp trs) g Q := fun Hi H θ σ f e R kk p hp => by
  obtain ⟨f1, o1, p1, p2⟩ := f.junk (o := .dK []) hp
  refine wpPs_run h f1 (e.go o1) _ fun ws g2 vs Hi2 H2 θ2 hx f2 r1 r2 o2 => ?_
  obtain ⟨kds, rfl, hl, hn, q⟩ := hx
  have hp2 : H2 p = some (.dK []) := o2.keep p _ upd_same p1
  rw [List.map_map] at r1 r2
  obtain ⟨kvs, e1, e2⟩ := map_of_pairs (kds := kds) r1 r2
  subst e1
  have em : mergeK [] kvs = kvs := by
    have := mergeK_nodup kvs [] (by rw [List.nil_append, e2.1]; exact hn)
    simpa using this
  refine ⟨hp2, kvs, rfl, ?_, ?_⟩
  · have := congrArg List.length e2.1
    simp at this
    omega
  rw [em]
  -- the dict, from here on a tree
  have hpi : Hi2 p = none := by
    cases z : Hi2 p with
    | none => rfl
    | some u =>
      rcases o2.new _ _ z with z | z | z
      · rw [p2] at z; cases z
      · rw [upd_same] at z; cases z
      · exact absurd z p1
  have hpθ : p ∉ θ2 := fun z => by
    obtain ⟨ν, e3, e4⟩ := o2.ext
    rw [e3] at z
    rcases List.mem_append.mp z with z | z
    · exact p1 z
    · have := e4 _ z
      rw [upd_same] at this
      cases this
  have sb : Sub Hi2 (upd Hi2 p (.dK kvs)) := Sub.new hpi
  have m3 : MF M.K (upd Hi2 p (.dK kvs)) (upd H2 p (.dK kvs)) θ2 g2.mu := by
    refine ⟨f2.mf.sub.upd, f2.mf.len, f2.mf.nd, fun a ha => ?_, fun j a c h1 h2 => ?_⟩
    · rw [upd_ne fun q => hpθ (by rw [← q]; exact ha)]; exact f2.mf.there a ha
    · have hne : a ≠ p := fun q => hpθ (by rw [← q]; exact List.mem_of_getElem? h1)
      refine (f2.mf.cell j a c h1 h2).mono sb ?_ ⟨[], by simp⟩ (upd_ne hne)
      by_cases q : c = .dead
      · exact .inl q
      · exact .inr (by rw [upd_ne hne]; exact (f2.mf.cell j a c h1 h2).no q)
  have oo := o1.trans o2
  have o3 : Go Hi H θ (upd Hi2 p (.dK kvs)) (upd H2 p (.dK kvs)) θ2 := by
    refine ⟨oo.ext, oo.hi.trans sb, fun b u z => ?_, fun a o z hm => ?_, fun a ha => ?_⟩
    · by_cases q : b = p
      · exact .inr (.inl (by rw [q]; exact hp))
      · rw [upd_ne q] at z
        exact oo.new b u z
    · rw [upd_ne (ne_of_none z hp)]
      exact oo.keep a o z hm
    · rw [upd_ne fun q => hpθ (by rw [← q]; exact ha)]
      exact oo.there a ha
  have e3 := e2.2.mono sb
  exact kk (.d (.dic kds)) ⟨g2.rho, g2.mu⟩ (.ref p) _ _ θ2 q (f.go m3 o3 |> fun z => ⟨m3, f2.len, fun i w h => let ⟨v, h1, h2⟩ := f2.slot i w h; ⟨v, h1, by
    cases w with
    | d d => exact DR.mono h2 sb
    | c k => exact h2⟩⟩) (.dic upd_same e2.1 fun i v d a b => e3.2 i v d (by rw [List.getElem?_map]; exact a) (by rw [List.getElem?_map]; exact b)) o3
/-- d[k] of a tree -/
def dgetW (x y : W) (g : G) (Q : QE) : Prop := ∃ kds k d, x = .d (.dic kds) ∧ y = .d (kD k) ∧ valD kds k = some d ∧ Q (.d d) g
theorem dgetW_mk {kds : List (Key × D)} {k : Key} (h : valD kds k = some d) (q : Q (.d d) g) : dgetW (.d (.dic kds)) (.d (kD k)) g Q := ⟨kds, k, d, rfl, rfl, h, q⟩
theorem dgetW_s {kds : List (Key × D)} {k : Str} (h : valD kds (.inr k) = some d) (q : Q (.d d) g) : dgetW (.d (.dic kds)) (.d (.str k)) g Q := ⟨kds, .inr k, d, rfl, rfl, h, q⟩
theorem dgetW_i {kds : List (Key × D)} {k : Int} (h : valD kds (.inl k) = some d) (q : Q (.d d) g) : dgetW (.d (.dic kds)) (.d (.int k)) g Q := ⟨kds, .inl k, d, rfl, rfl, h, q⟩
theorem dr_dic {K : PySem.W.Frag} {H : Hp} {v : V} {kds : List (Key × D)} (h : DR K H v (.dic kds)) : ∃ a kvs, v = .ref a ∧ H a = some (.dK kvs) ∧ DRk K H kvs kds := by
  cases h with
  | dic h1 h2 h3 => exact ⟨_, _, rfl, h1, h2, by have := congrArg List.length h2; simpa using this, fun i v d a b => h3 i v d (by rw [List.getElem?_map] at a; exact a) (by rw [List.getElem?_map] at b; exact b)⟩
theorem wpE_dget (h : wpE M td g fun x g1 => wpE M ty g1 fun y g2 => dgetW x y g2 Q) : wpE M (tDGet td ty) g Q := fun Hi H θ σ f e R kk =>
  h Hi H θ σ f e _ fun x g1 v Hi1 H1 θ1 hx f1 rx o1 => hx Hi1 H1 θ1 σ f1 (e.go o1) _ fun y g2 u Hi2 H2 θ2 hy f2 ry o2 => by
    obtain ⟨kds, k, d, rfl, rfl, hv, q⟩ := hy
    obtain ⟨a, kvs, rfl, h1, h2⟩ := dr_dic (rx.go o2)
    cases kD_kV ry
    obtain ⟨z, e1, e2⟩ := (h2.val k).1 d hv
    refine ⟨a, z, rfl, .inl ⟨kvs, k, .inl (f2.mf.sub _ _ h1), rfl, e1.symm⟩, ?_⟩
    exact (kk.go (o1.trans o2)).now f2 (w := .d d) e2 q
def asP : List (W × W) → Option (List (Key × D))
  | [] => some []
  | (.d (.str s), .d d) :: r => (asP r).map ((.inr s, d) :: ·)
  | (.d (.int s), .d d) :: r => (asP r).map ((.inl s, d) :: ·)
  | _ :: _ => none
theorem asP_eq : ∀ {ps : List (W × W)} {kds : List (Key × D)}, asP ps = some kds → ps = kds.map (fun kv => (W.d (kD kv.1), W.d kv.2))
  | [], kds, h => by
    cases h
    rfl
  | (.d (.str s), .d d) :: r, kds, h => by
    unfold asP at h
    cases e : asP r with
    | none => rw [e] at h; cases h
    | some es =>
      rw [e] at h
      cases h
      rw [asP_eq e]
      rfl
  | (.d (.int s), .d d) :: r, kds, h => by
    unfold asP at h
    cases e : asP r with
    | none => rw [e] at h; cases h
    | some es =>
      rw [e] at h
      cases h
      rw [asP_eq e]
      rfl
  | (.c _, _) :: r, kds, h => by simp [asP] at h
  | (.d d1, .c _) :: r, kds, h => by cases d1 <;> simp [asP] at h
  | (.d .non, .d _) :: r, kds, h => by simp [asP] at h
  | (.d (.bl _), .d _) :: r, kds, h => by simp [asP] at h
  | (.d (.ty _), .d _) :: r, kds, h => by simp [asP] at h
  | (.d (.adr _), .d _) :: r, kds, h => by simp [asP] at h
  | (.d (.lst _), .d _) :: r, kds, h => by simp [asP] at h
  | (.d (.tup _), .d _) :: r, kds, h => by simp [asP] at h
  | (.d (.rng _ _), .d _) :: r, kds, h => by simp [asP] at h
  | (.d (.obj _ _), .d _) :: r, kds, h => by simp [asP] at h
  | (.d (.dic _), .d _) :: r, kds, h => by simp [asP] at h
def litP (ps : List (W × W)) (q : List (Key × D) → Prop) : Prop := ∃ kds, asP ps = some kds ∧ kds.length ≤ 15 ∧ (kds.map (·.1)).Nodup ∧ q kds
theorem litP_mk {ps : List (W × W)} {kds : List (Key × D)} {q : List (Key × D) → Prop} (h : asP ps = some kds) (hl : Nat.ble kds.length 15 = true) (hn : (kds.map (·.1)).Nodup) (hq : q kds) : litP ps q := ⟨kds, h, Nat.le_of_ble_eq_true hl, hn, hq⟩
theorem wpPs_nil {QP : List (W × W) → G → Prop} (q : QP [] g) : wpPs M [] g QP := q
theorem wpPs_cons {tk tv : TE} {QP : List (W × W) → G → Prop} (q : wpE M tk g fun x g1 => wpE M tv g1 fun y g2 => wpPs M trs g2 fun ps g3 => QP ((x, y) :: ps) g3) : wpPs M ((tk, tv) :: trs) g QP := q
theorem wpPs_mono {trs : List (TE × TE)} : ∀ {g : G} {Q Q' : List (W × W) → G → Prop}, wpPs M trs g Q → (∀ ps g, Q ps g → Q' ps g) → wpPs M trs g Q' := by
  induction trs with
  | nil => exact fun h m => m _ _ h
  | cons p r ih => exact fun h m => wpE_mono h fun x g1 h1 => wpE_mono h1 fun y g2 h2 => ih h2 fun ps g3 h3 => m _ _ h3
theorem wpE_dispA (h : wpPs M trs g fun ps g1 => litP ps fun kds => Q (.d (.dic kds)) g1) : wpE M (tDisp trs) g Q := wpE_disp (wpPs_mono h fun ps g1 ⟨kds, h1, h2, h3, q⟩ => ⟨kds, asP_eq h1, h2, h3, q⟩)
end
/-! ### comprehensions that do nothing else -/
section
variable {M : Mx} {g : G} {Q : QE} {wi : TI} {gt : TG} {tt : TT} {te : TE} {vs : List Nat} {x y : W} {ds es : List D} {d : D}
theorem wpE_lcP (ht : TgOk gt vs) (h : wpI M wi g fun ds g1 => ds.length ≤ 16777215 ∧ ∃ f : D → Option D,
    (∀ d, d ∈ ds → wpG M gt (.d d) ⟨wipeRho g1.rho vs, g1.mu⟩ fun g2 => wpT M tt g2 fun b g3 => (b = true → wpE M te g3 fun w g4 => ∃ e, w = .d e ∧ f d = some e ∧ g4.mu = g1.mu) ∧ (b = false → f d = none ∧ g3.mu = g1.mu)) ∧
    Q (.d (.lst (ds.filterMap f))) g1) : wpE M (tLc wi gt tt te vs) g Q := by
  refine wpE_lc ht fun Hi H θ σ ft e R k => h Hi H θ σ ft e R fun ds g1 J Hi' H' θ' hq f' o' it => k ds g1 J Hi' H' θ' ?_ f' o' it
  obtain ⟨hl, f, st, q⟩ := hq
  refine ⟨hl, fun i acc μ => acc = (ds.take i).filterMap f ∧ μ = g1.mu, ⟨by simp, rfl⟩, ?_, ?_⟩
  · rintro i d acc μ hd ⟨rfl, rfl⟩ _
    have tk : (ds.take (i + 1)).filterMap f = (ds.take i).filterMap f ++ (match f d with | some e => [e] | none => []) := by
      rw [List.take_succ, hd, List.filterMap_append]
      congr 1
      show ([d].filterMap f) = _
      rw [List.filterMap_cons]
      cases f d <;> rfl
    have key := st d (List.mem_of_getElem? hd)
    intro Hi H θ σ ft e v rv R k
    refine key Hi H θ σ ft e v rv R fun g2 σ2 Hi2 H2 θ2 h2 f2 o2 => k g2 σ2 Hi2 H2 θ2 ?_ f2 o2
    intro Hi3 H3 θ3 σ3 f3 e3 R3 k3
    refine h2 Hi3 H3 θ3 σ3 f3 e3 R3 fun b g4 Hi4 H4 θ4 h4 f4 o4 => k3 b g4 Hi4 H4 θ4 ⟨fun hb => ?_, fun hb => ?_⟩ f4 o4
    · exact wpE_mono (h4.1 hb) fun w g5 ⟨e, e1, e2, e3⟩ => ⟨e, e1, by rw [tk, e2], e3⟩
    · obtain ⟨e1, e2⟩ := h4.2 hb
      exact ⟨by rw [tk, e1]; simp, e2⟩
  · rintro acc μ ⟨rfl, rfl⟩ _
    rw [List.take_length]
    exact q
theorem wpGs_dcons {gts : TGs} {QG : G → Prop} (h : wpG M gt (.d d) g fun g1 => wpGs M gts (ds.map W.d) g1 QG) : wpGs M (gCons gt gts) ((d :: ds).map W.d) g QG := wpGs_cons h
theorem wpGs_dnil {QG : G → Prop} (q : QG g) : wpGs M gNil (([] : List D).map W.d) g QG := wpGs_nil q
theorem eqv_nil : D.eqv (.lst ds) (.lst []) = ds.isEmpty := by
  cases ds <;> simp [D.eqv, toPy, toPys, PyData.eqv, PyData.eqvAll]
theorem opD_eqNil {n : Nat} (hx : Val g x (.lst ds)) (hf : Fine n (.lst ds)) (hn : n ≤ 64) (q : Q (.d (.bl ds.isEmpty)) g) : opD M (rEqT M.K) x (.d (.lst [])) g Q :=
  opD_eqT (n := n) (m := 1) hx .t hf (fun d hd => by simp at hd) hn (by omega) (by rw [eqv_nil]; exact q)
theorem opD_neNil {n : Nat} (hx : Val g x (.lst ds)) (hf : Fine n (.lst ds)) (hn : n ≤ 64) (q : Q (.d (.bl (!ds.isEmpty))) g) : opD M (rNeT M.K) x (.d (.lst [])) g Q :=
  opD_neT (n := n) (m := 1) hx .t hf (fun d hd => by simp at hd) hn (by omega) (by rw [eqv_nil]; exact q)
theorem fine_ints {ns : List Int} : Fine 1 (.lst (ns.map D.int)) := fun d hd => by
  obtain ⟨i, _, rfl⟩ := List.mem_map.mp hd
  exact trivial
end
end DL

namespace DL
open PySem PySem.Spec PyProof.Rows L2

/-! ### a for over a cell that the body leaves as it is -/
section
variable {M : Mx} {g : G} {nx bk ct : G → Prop} {rt : W → List Cell → Prop} {te : TE} {gt : TG} {tb : TS}
theorem ws_forC (h : wpE M te g fun w g1 => ∃ (k : Nat) (ds : List D), w = .c k ∧ ∃ I : Nat → G → Prop, I 0 g1 ∧ (∀ i g2, I i g2 → g2.mu[k]? = some (.pl ds)) ∧
    (∀ i d g2, ds[i]? = some d → I i g2 → wpG M gt (.d d) g2 fun g3 => wpS M tb g3 ⟨I (i + 1), rt, nx, I (i + 1)⟩) ∧ ∀ g2, I ds.length g2 → nx g2) : wpS M (tFor (iAny M.K te) gt tb) g ⟨nx, rt, bk, ct⟩ := fun Hi H θ σ f e D kk =>
  .inl (h Hi H θ σ f e _ fun w g1 v Hi1 H1 θ1 hx f1 rx o1 => by
    obtain ⟨k, ds, rfl, I, i0, ic, st, en⟩ := hx
    obtain ⟨a, e1, rfl⟩ := rx
    have cellAt : ∀ {g2 : G} {Hi2 H2 : Hp} {θ2 : List Addr} {σ2 : L2.St}, Fit M.K Hi2 H2 θ2 σ2 g2 → Go Hi1 H1 θ1 Hi2 H2 θ2 → g2.mu[k]? = some (.pl ds) → ∃ xs, H2 a = some (.lst xs) ∧ DRs M.K Hi2 xs ds := fun {g2 Hi2 H2 θ2 σ2} f2 o2 hc => by
      obtain ⟨ν, e2, _⟩ := o2.ext
      have e3 : θ2[k]? = some a := by
        rw [e2, List.getElem?_append_left (List.getElem?_eq_some_iff.mp e1).1]
        exact e1
      obtain ⟨_, xs, e4, e5⟩ := f2.mf.cell k a _ e3 hc
      exact ⟨xs, e4, e5⟩
    obtain ⟨xs0, x1, x2⟩ := cellAt f1 (Go.refl f1.mf) (ic 0 g1 i0)
    refine ⟨a, rfl, ⟨xs0, .of x1⟩, fun i m σ' H' => m = ds.length - i ∧ i ≤ ds.length ∧ ∃ g' Hi' θ', I i g' ∧ Fit M.K Hi' H' θ' σ' g' ∧ Go Hi1 H1 θ1 Hi' H' θ', ⟨ds.length, by simp, Nat.zero_le _, g1, Hi1, θ1, i0, f1, Go.refl f1.mf⟩, ?_⟩
    rintro i m σ' H' ⟨rfl, hi, g', Hi', θ', ig, fg, og⟩
    obtain ⟨xs, y1, y2⟩ := cellAt fg og (ic i g' ig)
    by_cases hlt : i < ds.length
    · have hx : i < xs.length := by rw [y2.1]; exact hlt
      refine .inr ⟨⟨xs, xs[i], .of y1, List.getElem?_eq_getElem hx⟩, fun σ3 H3 => ∃ g3 Hi3 θ3, I (i + 1) g3 ∧ Fit M.K Hi3 H3 θ3 σ3 g3 ∧ Go Hi1 H1 θ1 Hi3 H3 θ3, fun σ3 H3 z => ⟨ds.length - (i + 1), by omega, rfl, by omega, z⟩, fun x H2 hy => ?_⟩
      obtain ⟨e2, hy⟩ := hy
      subst e2
      have rd := y2.2 i x _ (hy xs (.of y1)) (List.getElem?_eq_getElem hlt)
      refine st i ds[i] g' (List.getElem?_eq_getElem hlt) ig Hi' H2 θ' σ' fg ((e.go o1).go og) x rd _ fun g3 σ3 Hi3 H3 θ3 q3 f3 o3 => ?_
      have o4 := og.trans o3
      refine q3 Hi3 H3 θ3 σ3 f3 ((e.go o1).go o4) _ ⟨?_, ?_, ?_, ?_⟩
      · exact fun g5 σ5 Hi5 H5 θ5 q5 f5 o5 => ⟨g5, Hi5, θ5, q5, f5, o4.trans o5⟩
      · exact fun w μ v a b c h1 h2 h3 h4 => kk.rt w μ v a b c h1 h2 h3 (o1.trans (o4.trans h4))
      · exact fun g5 σ5 a b c h1 h2 h3 => kk.nx g5 σ5 a b c h1 h2 (o1.trans (o4.trans h3))
      · exact fun g5 σ5 Hi5 H5 θ5 q5 f5 o5 => ⟨g5, Hi5, θ5, q5, f5, o4.trans o5⟩
    · have e0 : i = ds.length := by omega
      exact .inl ⟨⟨xs, .of y1, by rw [y2.1]; omega⟩, kk.nx g' σ' Hi' H' θ' (en g' (by rw [← e0]; exact ig)) fg (o1.trans og)⟩)
end
/-- a call that takes one list along, at any place -/
theorem callk {M : Mx} {Q : QE} {F : FS} {k : Nat} {ds : List D} {ρ : List (Option W)} {μ : List Cell} {ws : List W} (h : μ[k]? = some (.pl ds)) (hw : ws.all (W.inIo [k]) = true)
    (hF : ∀ Q1 X1, (∀ w μ1, after1 μ k (fun w μ => Q w ⟨ρ, μ⟩) w μ1 → Q1 w μ1) → (∀ w μ1, afterX1 μ k (fun w μ => M.qx w ⟨ρ, μ⟩) w μ1 → X1 w μ1) → F (ws.map (W.inv [k])) [.pl ds] Q1 X1) : callD M F ws ⟨ρ, μ⟩ Q := by
  have hl := (List.getElem?_eq_some_iff.mp h).1
  have e : μ.getD k .dead = .pl ds := by rw [List.getD_eq_getElem?_getD, h]; rfl
  have mg : ∀ c cs, merge μ [k] (c :: cs) = μ.set k (c.ren (ren [k] μ.length)) ++ cs.map (Cell.ren (ren [k] μ.length)) := fun c cs => by
    unfold merge
    simp [wput]
  refine .inl ⟨[k], ?_, ?_⟩
  · unfold okIo
    rw [List.all_cons, hw]
    show (_ && ((_ && (μ.getD k .dead).inIo [k]) && _) && _) = true
    rw [e]
    simp [hl, Cell.inIo]
  · show F (ws.map (W.inv [k])) [(μ.getD k .dead).inv [k]] _ _
    rw [e]
    refine hF _ _ (fun w μ1 q => ?_) (fun w μ1 q => ?_)
    · cases μ1 with
      | nil => exact q.elim
      | cons c cs =>
        show Q _ ⟨ρ, merge μ [k] (c :: cs)⟩
        rw [mg]
        exact q
    · cases μ1 with
      | nil => exact q.elim
      | cons c cs =>
        show M.qx _ ⟨ρ, merge μ [k] (c :: cs)⟩
        rw [mg]
        exact q
theorem after1_self {Q : W → List Cell → Prop} {d : D} {ds : List D} {k : Nat} {μ : List Cell} (h : μ[k]? = some (.pl ds)) (q : Q (.d d) μ) : after1 μ k Q (.d d) [.pl ds] := by
  refine after1_d ?_
  rw [show μ.set k (.pl ds) = μ by
    refine List.ext_getElem? fun i => ?_
    by_cases z : k = i
    · subst z
      rw [List.getElem?_set_self (List.getElem?_eq_some_iff.mp h).1, h]
    · rw [List.getElem?_set_ne z]]
  exact q
def asIntW (w : W) (q : Int → Prop) : Prop := ∃ i, w = .d (.int i) ∧ q i
theorem asIntW_mk {i : Int} {q : Int → Prop} (h : q i) : asIntW (.d (.int i)) q := ⟨i, rfl, h⟩
theorem po_ptI {M : Mx} {g : G} {te : TE} {QO : Option Int → G → Prop} (h : wpE M te g fun w g1 => asIntW w fun i => QO (some i) g1) : poD M (tPart te) g QO := po_pt h
end DL

namespace DL
open PySem PySem.Spec PyProof.Rows L2

def top (i : Nat) : Stmt := PySem.Challenge.pw_holesleft_k65_late_weavings.main.body.getD i (.Pass ⟨0, 0, 0, 0⟩)
abbrev s_is_integer : Stmt := top 15
abbrev s_is_scheme : Stmt := top 16
abbrev s_need_scheme : Stmt := top 17
abbrev s_need_houses : Stmt := top 18
abbrev s_need_number : Stmt := top 19
abbrev s_size_of : Stmt := top 20
abbrev s_late_weaving : Stmt := top 23
abbrev s__law_source : Stmt := top 25
abbrev s__law_draw : Stmt := top 26
abbrev s__law_size : Stmt := top 27
abbrev s__law_plan : Stmt := top 28
abbrev s__law_begun : Stmt := top 29
abbrev s__law_dealt : Stmt := top 30
abbrev s__law_closed : Stmt := top 31
abbrev s__law_played : Stmt := top 32
abbrev s__law_can : Stmt := top 33
abbrev s__law_right : Stmt := top 34
abbrev s_law : Stmt := top 35
structure Txt (K : PySem.W.Frag) (mg : Str → Option Value) : Prop where
  n_abs : mg "abs" = none
  n_bool : mg "bool" = none
  n_enumerate : mg "enumerate" = none
  n_int : mg "int" = none
  n_isinstance : mg "isinstance" = none
  n_len : mg "len" = none
  n_list : mg "list" = none
  n_max : mg "max" = none
  n_min : mg "min" = none
  n_range : mg "range" = none
  n_str : mg "str" = none
  n_tuple : mg "tuple" = none
  g_AGAIN : ∃ t, mg "AGAIN" = some (.str "again" t)
  g_END : ∃ t, mg "END" = some (.str "end" t)
  g_LATE : ∃ t, mg "LATE" = some (.str "late" t)
  g_LOST : ∃ t, mg "LOST" = some (.str "lost" t)
  g_MOST_DISTANCE : ∃ t, mg "MOST_DISTANCE" = some (.int 300 t)
  g_MOST_HOUSES : ∃ t, mg "MOST_HOUSES" = some (.int 20 t)
  g_MOST_SIZE : ∃ t, mg "MOST_SIZE" = some (.int 999999999999999999999999999999 t)
  g_ORDERS : ∃ a, mg "ORDERS" = some (.ref a) ∧ KTup K a [.str "least", .str "greatest", .str "oldest", .str "newest"]
  g_POOL : ∃ t, mg "POOL" = some (.str "pool" t)
  g_TAKE : ∃ t, mg "TAKE" = some (.str "take" t)
  h_is_integer : Here K mg "is_integer" s_is_integer
  h_is_scheme : Here K mg "is_scheme" s_is_scheme
  h_need_scheme : Here K mg "need_scheme" s_need_scheme
  h_need_houses : Here K mg "need_houses" s_need_houses
  h_need_number : Here K mg "need_number" s_need_number
  h_size_of : Here K mg "size_of" s_size_of
  h_late_weaving : Here K mg "late_weaving" s_late_weaving
  h__law_source : Here K mg "_law_source" s__law_source
  h__law_draw : Here K mg "_law_draw" s__law_draw
  h__law_size : Here K mg "_law_size" s__law_size
  h__law_plan : Here K mg "_law_plan" s__law_plan
  h__law_begun : Here K mg "_law_begun" s__law_begun
  h__law_dealt : Here K mg "_law_dealt" s__law_dealt
  h__law_closed : Here K mg "_law_closed" s__law_closed
  h__law_played : Here K mg "_law_played" s__law_played
  h__law_can : Here K mg "_law_can" s__law_can
  h__law_right : Here K mg "_law_right" s__law_right
  h_law : Here K mg "law" s_law
theorem ge_AGAIN {X : Cx} {K : PySem.W.Frag} {mg : Str → Option Value} {pos : Pos} (h : X.mg = mg) (T : Txt K mg) (hg : Gl X "AGAIN" := by rfl) : PE X (.Name "AGAIN" pos) (tC (.str "again")) := by
  obtain ⟨t, e⟩ := T.g_AGAIN
  exact pe_glob hg (by rw [h]; exact e) ⟨t, rfl⟩
theorem ge_END {X : Cx} {K : PySem.W.Frag} {mg : Str → Option Value} {pos : Pos} (h : X.mg = mg) (T : Txt K mg) (hg : Gl X "END" := by rfl) : PE X (.Name "END" pos) (tC (.str "end")) := by
  obtain ⟨t, e⟩ := T.g_END
  exact pe_glob hg (by rw [h]; exact e) ⟨t, rfl⟩
theorem ge_LATE {X : Cx} {K : PySem.W.Frag} {mg : Str → Option Value} {pos : Pos} (h : X.mg = mg) (T : Txt K mg) (hg : Gl X "LATE" := by rfl) : PE X (.Name "LATE" pos) (tC (.str "late")) := by
  obtain ⟨t, e⟩ := T.g_LATE
  exact pe_glob hg (by rw [h]; exact e) ⟨t, rfl⟩
theorem ge_LOST {X : Cx} {K : PySem.W.Frag} {mg : Str → Option Value} {pos : Pos} (h : X.mg = mg) (T : Txt K mg) (hg : Gl X "LOST" := by rfl) : PE X (.Name "LOST" pos) (tC (.str "lost")) := by
  obtain ⟨t, e⟩ := T.g_LOST
  exact pe_glob hg (by rw [h]; exact e) ⟨t, rfl⟩
theorem ge_MOST_DISTANCE {X : Cx} {K : PySem.W.Frag} {mg : Str → Option Value} {pos : Pos} (h : X.mg = mg) (T : Txt K mg) (hg : Gl X "MOST_DISTANCE" := by rfl) : PE X (.Name "MOST_DISTANCE" pos) (tC (.int 300)) := by
  obtain ⟨t, e⟩ := T.g_MOST_DISTANCE
  exact pe_glob hg (by rw [h]; exact e) ⟨t, rfl⟩
theorem ge_MOST_HOUSES {X : Cx} {K : PySem.W.Frag} {mg : Str → Option Value} {pos : Pos} (h : X.mg = mg) (T : Txt K mg) (hg : Gl X "MOST_HOUSES" := by rfl) : PE X (.Name "MOST_HOUSES" pos) (tC (.int 20)) := by
  obtain ⟨t, e⟩ := T.g_MOST_HOUSES
  exact pe_glob hg (by rw [h]; exact e) ⟨t, rfl⟩
theorem ge_MOST_SIZE {X : Cx} {K : PySem.W.Frag} {mg : Str → Option Value} {pos : Pos} (h : X.mg = mg) (T : Txt K mg) (hg : Gl X "MOST_SIZE" := by rfl) : PE X (.Name "MOST_SIZE" pos) (tC (.int 999999999999999999999999999999)) := by
  obtain ⟨t, e⟩ := T.g_MOST_SIZE
  exact pe_glob hg (by rw [h]; exact e) ⟨t, rfl⟩
theorem ge_ORDERS {X : Cx} {mg : Str → Option Value} {pos : Pos} (h : X.mg = mg) (T : Txt X.K mg) (hg : Gl X "ORDERS" := by rfl) : PE X (.Name "ORDERS" pos) (tKT X.K [.str "least", .str "greatest", .str "oldest", .str "newest"]) := by
  obtain ⟨a, e, k⟩ := T.g_ORDERS
  exact pe_ktup hg (by rw [h]; exact e) k
theorem ge_POOL {X : Cx} {K : PySem.W.Frag} {mg : Str → Option Value} {pos : Pos} (h : X.mg = mg) (T : Txt K mg) (hg : Gl X "POOL" := by rfl) : PE X (.Name "POOL" pos) (tC (.str "pool")) := by
  obtain ⟨t, e⟩ := T.g_POOL
  exact pe_glob hg (by rw [h]; exact e) ⟨t, rfl⟩
theorem ge_TAKE {X : Cx} {K : PySem.W.Frag} {mg : Str → Option Value} {pos : Pos} (h : X.mg = mg) (T : Txt K mg) (hg : Gl X "TAKE" := by rfl) : PE X (.Name "TAKE" pos) (tC (.str "take")) := by
  obtain ⟨t, e⟩ := T.g_TAKE
  exact pe_glob hg (by rw [h]; exact e) ⟨t, rfl⟩
inductive OrdD : Str → Prop
  | least : OrdD "least" | greatest : OrdD "greatest" | oldest : OrdD "oldest" | newest : OrdD "newest"
/-- a scheme -/
inductive Plan : D → Prop
  | late : Plan (.tup [.str "late"])
  | lost (n : Int) (h : 1 ≤ n) (h2 : n < 10 ^ 30) : Plan (.tup [.str "lost", .int n])
  | again (n : Int) (h : 1 ≤ n) (h2 : n < 10 ^ 30) : Plan (.tup [.str "again", .int n])
  | pool (o : Str) (h : OrdD o) : Plan (.tup [.str "pool", .str o])

local macro_rules | `(tactic| walk_at "dn") => `(tactic|
 ((try dsimp only [List.nil_append, List.cons_append, List.length_cons, List.length_nil, Nat.reduceAdd, Nat.zero_add, List.set_cons_zero, List.set_cons_succ, Int.toNat_natCast])))
local macro_rules | `(tactic| walk_at "dl") => `(tactic|
 (((repeat (first
  | ((with_reducible show wpS _ _ _ _); first
    | (with_reducible refine ws_seq ?_)
    | (with_reducible refine ws_asg ?_)
    | (with_reducible refine wpS_ifs ?_)
    | (with_reducible refine ws_ret ?_)
    | (with_reducible refine ws_retN ?_)
    | (with_reducible refine ws_drop ?_)
    | (with_reducible refine ws_next ?_)
    | (with_reducible refine ws_brk ?_)
    | (with_reducible refine ws_cont ?_))
  | ((with_reducible show wpE _ _ _ _); first
    | ((with_reducible apply wpE_var); exact rfl)
    | (with_reducible refine wpE_int ?_)
    | (with_reducible refine wpE_str ?_)
    | (with_reducible refine wpE_repA ?_)
    | (with_reducible refine wpE_op ?_)
    | (with_reducible refine wpE_cb ?_)
    | (with_reducible refine wpE_callS ?_)
    | (with_reducible refine wpE_tupA ?_)
    | (with_reducible refine wpE_bl ?_)
    | (with_reducible refine wpE_non ?_)
    | (with_reducible refine wpE_ty ?_)
    | (with_reducible refine wpE_kt ?_)
    | (with_reducible refine wpE_sl ?_)
    | (with_reducible refine wpE_bm ?_)
    | (with_reducible refine wpE_bm0 ?_)
    | (with_reducible refine wpE_dget ?_)
    | (with_reducible refine wpE_dispA ?_)
    | (with_reducible refine wpE_un ?_)
    | (with_reducible refine wpE_if ?_)
    | (with_reducible refine wpE_callKS ?_)
    | (with_reducible refine wpE_callN ?_)
    | (with_reducible refine wpE_andV ?_)
    | (with_reducible refine wpE_orV ?_)
    | (with_reducible refine wpE_notV ?_)
    | (with_reducible refine wpE_chain ?_))
  | ((with_reducible show wpA _ _ _ _); first
    | (with_reducible refine wpA_cons ?_)
    | (with_reducible refine wpA_nil ?_))
  | ((with_reducible show wpT _ _ _ _); first
    | (with_reducible refine wpT_test ?_)
    | (with_reducible refine wpT_B ?_)
    | (with_reducible refine wpT_not ?_)
    | (with_reducible refine wpT_and ?_)
    | (with_reducible refine wpT_or ?_)
    | (with_reducible refine wpT_yes ?_))
  | ((with_reducible show wpG _ _ _ _ _); first
    | (with_reducible refine wpG_nm ?_)
    | (with_reducible refine wpG_set ?_)
    | ((with_reducible apply wpG_tup); exact rfl)
    | (with_reducible refine wpG_name ?_))
  | ((with_reducible show opD _ _ _ _ _ _); first
    | (with_reducible refine opD_addI ?_)
    | (with_reducible refine opD_I0 ?_)
    | (with_reducible refine opD_B0 ?_)
    | (with_reducible refine opD_eqTI ?_)
    | (with_reducible refine opD_neTI ?_)
    | ((with_reducible apply opD_ixtT); exact rfl; exact rfl)
    | ((with_reducible apply opD_ixlL); exact rfl; exact rfl)
    | ((with_reducible apply opD_ixcC); exact rfl; exact rfl; exact rfl)
    | ((with_reducible apply opD_ixcM); exact rfl; exact rfl; exact rfl)
    | ((with_reducible refine opD_eqTSt ?_ ?_); decide +kernel)
    | ((with_reducible refine opD_eqTSf ?_ ?_); decide +kernel)
    | ((with_reducible refine opD_neTSt ?_ ?_); decide +kernel)
    | ((with_reducible refine opD_neTSf ?_ ?_); decide +kernel)
    | (with_reducible refine opD_isNon1 ?_)
    | (with_reducible refine opD_isNonc ?_)
    | ((with_reducible refine opD_isNonf ?_ ?_); exact rfl)
    | (with_reducible refine opD_notNon1 ?_)
    | (with_reducible refine opD_notNonc ?_)
    | ((with_reducible refine opD_notNonf ?_ ?_); exact rfl)
    | ((with_reducible apply opD_modG); omega; intro r hr0 hr1 hre)
    | ((with_reducible apply opD_divG); omega; intro r hre)
    | ((with_reducible apply opD_mulG); omega)
    | ((with_reducible apply opD_powC); (unfold CPw; decide); ((with_reducible simp only [Int.reduceToNat, Int.reducePow]); exact rfl))
    | ((with_reducible apply opD_powG); omega)
    | (with_reducible refine opD_eqTB ?_)
    | (with_reducible refine opD_neTB ?_)
    | ((with_reducible refine opD_inTt ?_ ?_ ?_ ?_); exact rfl; exact rfl; decide +kernel)
    | ((with_reducible refine opD_inTf ?_ ?_ ?_ ?_); exact rfl; exact rfl; decide +kernel)
    | ((with_reducible refine opD_inLt ?_ ?_ ?_ ?_); exact rfl; exact rfl; decide +kernel)
    | ((with_reducible refine opD_inLf ?_ ?_ ?_ ?_); exact rfl; exact rfl; decide +kernel)
    | ((with_reducible refine opD_ninTt ?_ ?_ ?_ ?_); exact rfl; exact rfl; decide +kernel)
    | ((with_reducible refine opD_ninTf ?_ ?_ ?_ ?_); exact rfl; exact rfl; decide +kernel)
    | ((with_reducible refine opD_ninLt ?_ ?_ ?_ ?_); exact rfl; exact rfl; decide +kernel)
    | ((with_reducible refine opD_ninLf ?_ ?_ ?_ ?_); exact rfl; exact rfl; decide +kernel)
    | (with_reducible refine opD_eqI ?_))
  | ((with_reducible show unD _ _ _ _ _); first
    | (with_reducible refine unD_neg ?_))
  | ((with_reducible show cbD _ _ _ _ _); first
    | (with_reducible refine cbD_intI ?_)
    | (with_reducible refine cbD_intB ?_)
    | (with_reducible refine cbD_lenT ?_)
    | (with_reducible refine cbD_lenL .t ?_)
    | ((with_reducible apply cbD_lenL); exact Val.pl rfl)
    | (with_reducible refine cbD_abs ?_)
    | (with_reducible refine cbD_max2 ?_)
    | (with_reducible refine cbD_min2 ?_)
    | (with_reducible refine cbD_range1 ?_)
    | ((with_reducible refine isi_It ?_ ?_); exact rfl)
    | ((with_reducible refine isi_If ?_ ?_ ?_); (first | assumption | exact tyn_int | exact tyn_str | exact tyn_lst | exact tyn_tup | exact tyn_bl | exact tyn_non | exact tyn_dic); exact rfl)
    | ((with_reducible refine isi_Bt ?_ ?_); exact rfl)
    | ((with_reducible refine isi_Bf ?_ ?_ ?_); (first | assumption | exact tyn_int | exact tyn_str | exact tyn_lst | exact tyn_tup | exact tyn_bl | exact tyn_non | exact tyn_dic); exact rfl)
    | ((with_reducible refine isi_St ?_ ?_); exact rfl)
    | ((with_reducible refine isi_Sf ?_ ?_ ?_); (first | assumption | exact tyn_int | exact tyn_str | exact tyn_lst | exact tyn_tup | exact tyn_bl | exact tyn_non | exact tyn_dic); exact rfl)
    | ((with_reducible refine isi_Lt ?_ ?_); exact rfl)
    | ((with_reducible refine isi_Lf ?_ ?_ ?_); (first | assumption | exact tyn_int | exact tyn_str | exact tyn_lst | exact tyn_tup | exact tyn_bl | exact tyn_non | exact tyn_dic); exact rfl)
    | ((with_reducible refine isi_Tt ?_ ?_); exact rfl)
    | ((with_reducible refine isi_Tf ?_ ?_ ?_); (first | assumption | exact tyn_int | exact tyn_str | exact tyn_lst | exact tyn_tup | exact tyn_bl | exact tyn_non | exact tyn_dic); exact rfl)
    | ((with_reducible refine isi_Dt ?_ ?_); exact rfl)
    | ((with_reducible refine isi_Df ?_ ?_ ?_); (first | assumption | exact tyn_int | exact tyn_str | exact tyn_lst | exact tyn_tup | exact tyn_bl | exact tyn_non | exact tyn_dic); exact rfl))
  | ((with_reducible show setW _ _ _ _ _); first
    | ((with_reducible apply setW_pl); exact rfl; exact rfl)
    | ((with_reducible apply setW_ml); exact rfl; exact rfl))
  | ((with_reducible show litW _ _); first
    | ((with_reducible apply litW_mk); exact rfl; exact rfl))
  | ((with_reducible show (_ = true → _) ∧ (_ = false → _)); first
    | (with_reducible refine br_t ?_)
    | (with_reducible refine br_f ?_)
    | (with_reducible refine br_nott ?_)
    | (with_reducible refine br_notf ?_)
    | ((with_reducible apply br_yes); (first | omega | exact of_decide_eq_true rfl))
    | ((with_reducible apply br_no); (first | omega | exact of_decide_eq_false rfl))
    | ((with_reducible apply br_nyes); (first | omega | exact of_decide_eq_true rfl))
    | ((with_reducible apply br_nno); (first | omega | exact of_decide_eq_false rfl)))
  | ((with_reducible apply And.intro); exact Exists.intro _ (Val.pl rfl))
  | (with_reducible refine wpPs_cons ?_)
  | (with_reducible refine wpGs_dcons ?_)
  | (with_reducible refine wpGs_dnil ?_)
  | (with_reducible refine wpPs_nil ?_)
  | (with_reducible refine po_no ?_)
  | (with_reducible refine po_ptI ?_)
  | (with_reducible refine asIntW_mk ?_)
  | ((with_reducible apply litP_mk); exact rfl; exact rfl; (dsimp only [List.map]; decide +kernel))
  | ((with_reducible apply dgetW_s); exact rfl)
  | ((with_reducible apply dgetW_i); exact rfl)
  | (with_reducible refine Exists.intro _ (And.intro (Eq.refl (W.d (D.bl _))) ?_))));
    (try dsimp only [List.nil_append, List.cons_append, List.length_cons, List.length_nil, Nat.reduceAdd, Nat.zero_add, List.set_cons_zero, List.set_cons_succ, Int.toNat_natCast]))))
local macro_rules | `(tactic| walk_at "dh") => `(tactic|
 (((repeat (first
  | ((with_reducible show wpS _ _ _ _); first
    | (with_reducible refine ws_seq ?_)
    | (with_reducible refine ws_asg ?_)
    | (with_reducible refine wpS_ifs ?_)
    | (with_reducible refine ws_ret ?_)
    | (with_reducible refine ws_retN ?_)
    | (with_reducible refine ws_drop ?_)
    | (with_reducible refine ws_next ?_)
    | (with_reducible refine ws_brk ?_)
    | (with_reducible refine ws_cont ?_))
  | ((with_reducible show wpE _ _ _ _); first
    | ((with_reducible apply wpE_var); exact rfl)
    | (with_reducible refine wpE_int ?_)
    | (with_reducible refine wpE_str ?_)
    | (with_reducible refine wpE_repA ?_)
    | (with_reducible refine wpE_op ?_)
    | (with_reducible refine wpE_cb ?_)
    | (with_reducible refine wpE_callS ?_)
    | (with_reducible refine wpE_tupA ?_)
    | (with_reducible refine wpE_bl ?_)
    | (with_reducible refine wpE_non ?_)
    | (with_reducible refine wpE_ty ?_)
    | (with_reducible refine wpE_kt ?_)
    | (with_reducible refine wpE_sl ?_)
    | (with_reducible refine wpE_bm ?_)
    | (with_reducible refine wpE_bm0 ?_)
    | (with_reducible refine wpE_dget ?_)
    | (with_reducible refine wpE_dispA ?_)
    | (with_reducible refine wpE_un ?_)
    | (with_reducible refine wpE_if ?_)
    | (with_reducible refine wpE_callKS ?_)
    | (with_reducible refine wpE_callN ?_)
    | (with_reducible refine wpE_andV ?_)
    | (with_reducible refine wpE_orV ?_)
    | (with_reducible refine wpE_notV ?_)
    | (with_reducible refine wpE_chain ?_))
  | ((with_reducible show wpA _ _ _ _); first
    | (with_reducible refine wpA_cons ?_)
    | (with_reducible refine wpA_nil ?_))
  | ((with_reducible show wpT _ _ _ _); first
    | (with_reducible refine wpT_test ?_)
    | (with_reducible refine wpT_B ?_)
    | (with_reducible refine wpT_not ?_)
    | (with_reducible refine wpT_and ?_)
    | (with_reducible refine wpT_or ?_)
    | (with_reducible refine wpT_yes ?_))
  | ((with_reducible show wpG _ _ _ _ _); first
    | (with_reducible refine wpG_nm ?_)
    | (with_reducible refine wpG_set ?_)
    | ((with_reducible apply wpG_tup); exact rfl)
    | (with_reducible refine wpG_name ?_))
  | ((with_reducible show opD _ _ _ _ _ _); first
    | (with_reducible refine opD_addI ?_)
    | (with_reducible refine opD_I0 ?_)
    | (with_reducible refine opD_B0 ?_)
    | (with_reducible refine opD_eqTI ?_)
    | (with_reducible refine opD_neTI ?_)
    | ((with_reducible apply opD_ixtT); exact rfl; exact rfl)
    | ((with_reducible apply opD_ixlL); exact rfl; exact rfl)
    | ((with_reducible apply opD_ixcC); exact rfl; exact rfl; exact rfl)
    | ((with_reducible apply opD_ixcM); exact rfl; exact rfl; exact rfl)
    | ((with_reducible refine opD_eqTSt ?_ ?_); decide +kernel)
    | ((with_reducible refine opD_eqTSf ?_ ?_); decide +kernel)
    | ((with_reducible refine opD_neTSt ?_ ?_); decide +kernel)
    | ((with_reducible refine opD_neTSf ?_ ?_); decide +kernel)
    | (with_reducible refine opD_isNon1 ?_)
    | (with_reducible refine opD_isNonc ?_)
    | ((with_reducible refine opD_isNonf ?_ ?_); exact rfl)
    | (with_reducible refine opD_notNon1 ?_)
    | (with_reducible refine opD_notNonc ?_)
    | ((with_reducible refine opD_notNonf ?_ ?_); exact rfl)
    | ((with_reducible apply opD_modG); omega; intro r hr0 hr1 hre)
    | ((with_reducible apply opD_divG); omega; intro r hre)
    | ((with_reducible apply opD_mulG); omega)
    | ((with_reducible apply opD_powC); (unfold CPw; decide); ((with_reducible simp only [Int.reduceToNat, Int.reducePow]); exact rfl))
    | ((with_reducible apply opD_powG); omega)
    | (with_reducible refine opD_eqTB ?_)
    | (with_reducible refine opD_neTB ?_)
    | ((with_reducible refine opD_inTt ?_ ?_ ?_ ?_); exact rfl; exact rfl; decide +kernel)
    | ((with_reducible refine opD_inTf ?_ ?_ ?_ ?_); exact rfl; exact rfl; decide +kernel)
    | ((with_reducible refine opD_inLt ?_ ?_ ?_ ?_); exact rfl; exact rfl; decide +kernel)
    | ((with_reducible refine opD_inLf ?_ ?_ ?_ ?_); exact rfl; exact rfl; decide +kernel)
    | ((with_reducible refine opD_ninTt ?_ ?_ ?_ ?_); exact rfl; exact rfl; decide +kernel)
    | ((with_reducible refine opD_ninTf ?_ ?_ ?_ ?_); exact rfl; exact rfl; decide +kernel)
    | ((with_reducible refine opD_ninLt ?_ ?_ ?_ ?_); exact rfl; exact rfl; decide +kernel)
    | ((with_reducible refine opD_ninLf ?_ ?_ ?_ ?_); exact rfl; exact rfl; decide +kernel)
    | (with_reducible refine opD_eqI ?_))
  | ((with_reducible show unD _ _ _ _ _); first
    | (with_reducible refine unD_neg ?_))
  | ((with_reducible show cbD _ _ _ _ _); first
    | (with_reducible refine cbD_intI ?_)
    | (with_reducible refine cbD_intB ?_)
    | (with_reducible refine cbD_lenT ?_)
    | (with_reducible refine cbD_lenL .t ?_)
    | ((with_reducible apply cbD_lenL); exact Val.pl rfl)
    | (with_reducible refine cbD_abs ?_)
    | (with_reducible refine cbD_max2 ?_)
    | (with_reducible refine cbD_min2 ?_)
    | (with_reducible refine cbD_range1 ?_)
    | ((with_reducible refine isi_It ?_ ?_); exact rfl)
    | ((with_reducible refine isi_If ?_ ?_ ?_); (first | assumption | exact tyn_int | exact tyn_str | exact tyn_lst | exact tyn_tup | exact tyn_bl | exact tyn_non | exact tyn_dic); exact rfl)
    | ((with_reducible refine isi_Bt ?_ ?_); exact rfl)
    | ((with_reducible refine isi_Bf ?_ ?_ ?_); (first | assumption | exact tyn_int | exact tyn_str | exact tyn_lst | exact tyn_tup | exact tyn_bl | exact tyn_non | exact tyn_dic); exact rfl)
    | ((with_reducible refine isi_St ?_ ?_); exact rfl)
    | ((with_reducible refine isi_Sf ?_ ?_ ?_); (first | assumption | exact tyn_int | exact tyn_str | exact tyn_lst | exact tyn_tup | exact tyn_bl | exact tyn_non | exact tyn_dic); exact rfl)
    | ((with_reducible refine isi_Lt ?_ ?_); exact rfl)
    | ((with_reducible refine isi_Lf ?_ ?_ ?_); (first | assumption | exact tyn_int | exact tyn_str | exact tyn_lst | exact tyn_tup | exact tyn_bl | exact tyn_non | exact tyn_dic); exact rfl)
    | ((with_reducible refine isi_Tt ?_ ?_); exact rfl)
    | ((with_reducible refine isi_Tf ?_ ?_ ?_); (first | assumption | exact tyn_int | exact tyn_str | exact tyn_lst | exact tyn_tup | exact tyn_bl | exact tyn_non | exact tyn_dic); exact rfl)
    | ((with_reducible refine isi_Dt ?_ ?_); exact rfl)
    | ((with_reducible refine isi_Df ?_ ?_ ?_); (first | assumption | exact tyn_int | exact tyn_str | exact tyn_lst | exact tyn_tup | exact tyn_bl | exact tyn_non | exact tyn_dic); exact rfl))
  | ((with_reducible show setW _ _ _ _ _); first
    | ((with_reducible apply setW_pl); exact rfl; exact rfl)
    | ((with_reducible apply setW_ml); exact rfl; exact rfl))
  | ((with_reducible show litW _ _); first
    | ((with_reducible apply litW_mk); exact rfl; exact rfl))
  | ((with_reducible show (_ = true → _) ∧ (_ = false → _)); first
    | (with_reducible refine br_t ?_)
    | (with_reducible refine br_f ?_)
    | (with_reducible refine br_nott ?_)
    | (with_reducible refine br_notf ?_)
    | ((with_reducible apply br_yes); (first | omega | exact of_decide_eq_true rfl))
    | ((with_reducible apply br_no); (first | omega | exact of_decide_eq_false rfl))
    | ((with_reducible apply br_nyes); (first | omega | exact of_decide_eq_true rfl))
    | ((with_reducible apply br_nno); (first | omega | exact of_decide_eq_false rfl)))
  | ((with_reducible apply And.intro); exact Exists.intro _ (Val.pl rfl))
  | (with_reducible refine wpPs_cons ?_)
  | (with_reducible refine wpGs_dcons ?_)
  | (with_reducible refine wpGs_dnil ?_)
  | (with_reducible refine wpPs_nil ?_)
  | (with_reducible refine po_no ?_)
  | (with_reducible refine po_ptI ?_)
  | (with_reducible refine asIntW_mk ?_)
  | ((with_reducible apply litP_mk); exact rfl; exact rfl; (dsimp only [List.map]; decide +kernel))
  | ((with_reducible apply dgetW_s); exact rfl)
  | ((with_reducible apply dgetW_i); exact rfl)
  | (with_reducible refine Exists.intro _ (And.intro (Eq.refl (W.d (D.bl _))) ?_))
  | ((with_reducible apply opD_ixcC); exact rfl; (refine ix_nat rfl ?_; (first | assumption | omega | ((try simp only [List.length_map, List.length_set, List.length_replicate]); first | assumption | omega))); (first | assumption | exact rfl | (refine List.getElem?_set_self ?_; (first | assumption | omega | ((try simp only [List.length_map, List.length_set, List.length_replicate]); first | assumption | omega)))))
  | ((with_reducible apply setW_pl); exact rfl; (refine ix_nat rfl ?_; (first | assumption | omega | ((try simp only [List.length_map, List.length_set, List.length_replicate]); first | assumption | omega))))
  | ((with_reducible refine opD_cat .t .t ?_ ?_); ((try simp only [List.length_map, List.length_cons, List.length_nil, List.length_append]); omega))
  | ((with_reducible apply mtD_app); exact rfl; ((try simp only [List.length_map, List.length_cons, List.length_nil, List.length_append, List.length_set, List.length_replicate]); omega))
  | (with_reducible refine wpE_lstA ?_)));
    (try dsimp only [List.nil_append, List.cons_append, List.length_cons, List.length_nil, Nat.reduceAdd, Nat.zero_add, List.set_cons_zero, List.set_cons_succ, Int.toNat_natCast]))))
local macro_rules | `(tactic| walk_at "seth") => `(tactic|
 (((with_reducible apply setW_pl); exact rfl; (refine ix_nat rfl ?_; (first | assumption | omega | ((try simp only [List.length_map, List.length_set, List.length_replicate]); first | assumption | omega))))))
local macro_rules | `(tactic| walk_at "geth") => `(tactic|
 (((with_reducible apply opD_ixcC); exact rfl; (refine ix_nat rfl ?_; (first | assumption | omega | ((try simp only [List.length_map, List.length_set, List.length_replicate]); first | assumption | omega))); (first | assumption | exact rfl | (refine List.getElem?_set_self ?_; (first | assumption | omega | ((try simp only [List.length_map, List.length_set, List.length_replicate]); first | assumption | omega)))))))
local macro_rules | `(tactic| walk_at "cat") => `(tactic|
 (((with_reducible refine opD_cat .t .t ?_ ?_); ((try simp only [List.length_map, List.length_cons, List.length_nil, List.length_append]); omega))))
local macro_rules | `(tactic| walk_at "lt") => `(tactic|
 ((first | assumption | omega | ((try simp only [List.length_map, List.length_set, List.length_replicate]); first | assumption | omega))))
local macro_rules | `(tactic| walk_at "app") => `(tactic|
 (((with_reducible apply mtD_app); exact rfl; ((try simp only [List.length_map, List.length_cons, List.length_nil, List.length_append, List.length_set, List.length_replicate]); omega))))
local macro_rules | `(tactic| walk_at "tyn") => `(tactic|
 ((first | assumption | exact tyn_int | exact tyn_str | exact tyn_lst | exact tyn_tup | exact tyn_bl | exact tyn_non | exact tyn_dic)))
local macro_rules | `(tactic| walk_at "retc") => `(tactic|
 ((apply ret0_c; exact rfl)))
local macro_rules | `(tactic| walk_at "retl") => `(tactic|
 ((apply ret0_pl; exact rfl)))
local macro_rules | `(tactic| walk_at "rept") => `(tactic|
 ((apply repW_t; omega; ((try simp only [List.length_cons, List.length_nil]); omega))))
local macro_rules | `(tactic| walk_at "repc") => `(tactic|
 ((apply repW_c; omega; ((try simp only [List.length_cons, List.length_nil]); omega))))

section
variable {P : Program} {w : World} {K : PySem.W.Frag} {mg : Str → Option Value} {base : Heap}

/-! is_integer -/
abbrev sl_is_integer : List Str := ["value", "least", "most"]
theorem sc_is_integer : FnScope sl_is_integer ["value", "least", "most"] (defScope s_is_integer) := ⟨rfl, rfl, rfl, by decide +kernel, rfl, by decide +kernel, by decide +kernel⟩
def isIntD (d : D) (l : Int) (m : D) : Bool := match d, m with
  | .int i, .int j => decide (l ≤ i) && decide (i ≤ j)
  | .int i, _ => decide (l ≤ i)
  | _, _ => false
def f_is_integer : FS := fun ws μ Q QX => ∃ (d : D) (l : Int) (m : D), ws = [.d d, .d (.int l), .d m] ∧ μ = [] ∧ d.tyn ≠ "" ∧ (m = .non ∨ ∃ j, m = .int j) ∧ Q (.d (.bl (isIntD d l m))) []
theorem len_is_integer : ∀ ws μ Q QX, f_is_integer ws μ Q QX → ws.length = 3 := by
  rintro _ _ _ _ ⟨_, _, _, rfl, _⟩
  rfl
theorem call_is_integer {M : Mx} {Q : QE} {d : D} {l : Int} {m : D} {ρ : List (Option W)} {μ : List Cell} (hd : d.tyn ≠ "") (hm : m = .non ∨ ∃ j, m = .int j) (q : Q (.d (.bl (isIntD d l m))) ⟨ρ, μ⟩) : callD M f_is_integer [.d d, .d (.int l), .d m] ⟨ρ, μ⟩ Q :=
  callT (vs := [d, .int l, m]) rfl fun Q1 X1 k1 k2 _ => ⟨d, l, m, rfl, rfl, hd, hm, k1 _ q⟩
theorem t_is_integer {f : Addr} {fd : FuncData} (F : Fun K "is_integer" "is_integer" s_is_integer f fd) (T : Txt K mg) : FnG P w K mg base 1 f fd ["value", "least", "most"] (spOf K f_is_integer) := by
  refine fn_dlG F sc_is_integer len_is_integer fun cdv A outer s H E hr hq => ?_
  have tk : Takes (cxOf (L2.CX P w) P w K mg base sl_is_integer "is_integer" (defScope s_is_integer) f cdv A outer s H E) (fun cls d _ H => E cls d H) := takes_of rfl rfl rfl rfl
  refine ⟨_, (pss_cons (ps_if (pw_or (pt_not (pt_val (pe_callB call_isi (by rfl) T.n_isinstance (by decide +kernel) (pa_cons (pv 0) (pa_cons (pe_bltn (v := .ty "int") (u := .type "int") (by rfl) T.n_int (by decide +kernel) rfl) pa_nil))))) (pw_or1 (pt_val (pe_callB call_isi (by rfl) T.n_isinstance (by decide +kernel) (pa_cons (pv 0) (pa_cons (pe_bltn (v := .ty "bool") (u := .type "bool") (by rfl) T.n_bool (by decide +kernel) rfl) pa_nil)))))).pt (pss_one (ps_ret pe_bl)) pss_nil)
      (pss_one (ps_ret (pe_and (pe_cmpR op_ge (pv 0) (pv 1) (nomark _)) (pe_one (pe_or (pe_cmpR op_isNon (pv 2) pe_non (nomark _)) (pe_one (pe_cmpR op_le (pv 0) (pv 2) (nomark _))))))))), ?_⟩
  intro ws μ Qd QX h
  obtain ⟨d, l, m, rfl, rfl, hd, hm, q⟩ := h
  all_goals dsimp only [cxOf, endN, sl_is_integer, List.map, List.append_eq, List.map_cons, List.map_nil, List.length_cons, List.length_nil, List.cons_append, List.nil_append, List.replicate_succ, List.replicate_zero, Nat.reduceAdd, Nat.reduceSub, Nat.zero_add, Nat.add_zero]
  cases d with
  | int i =>
    walk_at "dl"
    rcases hm with rfl | ⟨j, rfl⟩
    · refine br_dec (fun hp => ?_) (fun hp => ?_)
      · walk_at "dl"
        refine ret0 ?_
        simpa [isIntD, hp] using q
      · walk_at "dl"
        refine ret0 ?_
        simpa [isIntD, hp] using q
    · refine br_dec (fun hp => ?_) (fun hp => ?_)
      · walk_at "dl"
        refine ret0 ?_
        simpa [isIntD, hp] using q
      · walk_at "dl"
        refine ret0 ?_
        simpa [isIntD, hp] using q
  | _ => first | exact absurd rfl hd | (walk_at "dl"; exact ret0 q)
theorem d_is_integer (T : Txt K mg) : Dx P w K mg base 1 "is_integer" ["value", "least", "most"] f_is_integer := dx_mk T.h_is_integer (fun F => F.binds (ps := ["value", "least", "most"]) fun _ _ _ _ _ _ us hl => match us, hl with | [_, _, _], _ => rfl) fun F => t_is_integer F T
/-! is_scheme -/
abbrev sl_is_scheme : List Str := ["value"]
theorem sc_is_scheme : FnScope sl_is_scheme ["value"] (defScope s_is_scheme) := ⟨rfl, rfl, rfl, by decide +kernel, rfl, by decide +kernel, by decide +kernel⟩
def f_is_scheme : FS := fun ws μ Q QX => ∃ d, ws = [.d d] ∧ μ = [] ∧ Plan d ∧ Q (.d (.bl true)) []
theorem len_is_scheme : ∀ ws μ Q QX, f_is_scheme ws μ Q QX → ws.length = 1 := by
  rintro _ _ _ _ ⟨_, rfl, _⟩
  rfl
theorem call_is_scheme {M : Mx} {Q : QE} {d : D} {ρ : List (Option W)} {μ : List Cell} (hd : Plan d) (q : Q (.d (.bl true)) ⟨ρ, μ⟩) : callD M f_is_scheme [.d d] ⟨ρ, μ⟩ Q :=
  callT (vs := [d]) rfl fun Q1 X1 k1 k2 _ => ⟨d, rfl, rfl, hd, k1 _ q⟩
theorem t_is_scheme {f : Addr} {fd : FuncData} (F : Fun K "is_scheme" "is_scheme" s_is_scheme f fd) (T : Txt K mg) : FnG P w K mg base 2 f fd ["value"] (spOf K f_is_scheme) := by
  obtain ⟨f_is_integer', fd_is_integer, m_is_integer, k_is_integer, b_is_integer, g_is_integer⟩ := d_is_integer (P := P) (w := w) (base := base) T
  refine fn_dlG F sc_is_scheme len_is_scheme fun cdv A outer s H E hr hq => ?_
  have tk : Takes (cxOf (L2.CX P w) P w K mg base sl_is_scheme "is_scheme" (defScope s_is_scheme) f cdv A outer s H E) (fun cls d _ H => E cls d H) := takes_of rfl rfl rfl rfl
  refine ⟨_, (pss_cons (ps_if (pw_or (pt_not (pt_val (pe_callB call_isi (by rfl) T.n_isinstance (by decide +kernel) (pa_cons (pv 0) (pa_cons (pe_bltn (v := .ty "tuple") (u := .type "tuple") (by rfl) T.n_tuple (by decide +kernel) rfl) pa_nil))))) (pw_or (pt_not (pt_chain op_le op_le pe_int (pe_callB call_lenL (by rfl) T.n_len PySem.boot_len (pa_cons (pv 0) pa_nil)) pe_int)) (pw_or1 (pt_not (pt_val (pe_callB call_isi (by rfl) T.n_isinstance (by decide +kernel) (pa_cons (pe_ix ix_seq (pv 0) pe_int (fun _ _ => rfl)) (pa_cons (pe_bltn (v := .ty "str") (u := .type "str") (by rfl) T.n_str (by decide +kernel) rfl) pa_nil)))))))).pt (pss_one (ps_ret pe_bl)) pss_nil)
      (pss_cons (ps_if (pt_cmpR (op_eqT (by exact hr.units)) (pe_callB call_lenL (by rfl) T.n_len PySem.boot_len (pa_cons (pv 0) pa_nil)) pe_int (nomark _)) (pss_one (ps_ret (pe_cmpR (op_eqT (by exact hr.units)) (pe_ix ix_seq (pv 0) pe_int (fun _ _ => rfl)) (ge_LATE rfl T) (nomark _)))) pss_nil)
      (pss_cons (ps_if (pt_cmpR (op_eqT (by exact hr.units)) (pe_ix ix_seq (pv 0) pe_int (fun _ _ => rfl)) (ge_POOL rfl T) (nomark _)) (pss_one (ps_ret (pe_and (pe_callB call_isi (by rfl) T.n_isinstance (by decide +kernel) (pa_cons (pe_ix ix_seq (pv 0) pe_int (fun _ _ => rfl)) (pa_cons (pe_bltn (v := .ty "str") (u := .type "str") (by rfl) T.n_str (by decide +kernel) rfl) pa_nil))) (pe_one (pe_cmpR op_inA (pe_ix ix_seq (pv 0) pe_int (fun _ _ => rfl)) (ge_ORDERS rfl T) (by rfl)))))) pss_nil)
      (pss_one (ps_ret (pe_and (pe_cmpR op_inA (pe_ix ix_seq (pv 0) pe_int (fun _ _ => rfl)) (pe_tup (pa_cons (ge_LOST rfl T) (pa_cons (ge_AGAIN rfl T) pa_nil))) (by rfl)) (pe_one (pe_callQ g_is_integer (hr.mono (by decide)) hq (by rfl) m_is_integer k_is_integer b_is_integer tk (pa_cons (pe_ix ix_seq (pv 0) pe_int (fun _ _ => rfl)) (pa_cons pe_int (pa_cons (ge_MOST_SIZE rfl T) pa_nil))))))))))), ?_⟩
  intro ws μ Qd QX h
  obtain ⟨d, rfl, rfl, hd, q⟩ := h
  all_goals dsimp only [cxOf, endN, sl_is_scheme, List.map, List.append_eq, List.map_cons, List.map_nil, List.length_cons, List.length_nil, List.cons_append, List.nil_append, List.replicate_succ, List.replicate_zero, Nat.reduceAdd, Nat.reduceSub, Nat.zero_add, Nat.add_zero]
  cases hd with
  | late => 
    walk_at "dl"
    exact ret0 q
  | lost n h1 h2 =>
    walk_at "dl"
    refine call_is_integer tyn_int (.inr ⟨_, rfl⟩) ?_
    rw [show isIntD (.int n) 1 (.int 999999999999999999999999999999) = true by simp [isIntD]; omega]
    exact ret0 q
  | again n h1 h2 =>
    walk_at "dl"
    refine call_is_integer tyn_int (.inr ⟨_, rfl⟩) ?_
    rw [show isIntD (.int n) 1 (.int 999999999999999999999999999999) = true by simp [isIntD]; omega]
    exact ret0 q
  | pool o ho =>
    cases ho <;> (walk_at "dl"; exact ret0 q)
theorem d_is_scheme (T : Txt K mg) : Dx P w K mg base 2 "is_scheme" ["value"] f_is_scheme := dx_mk T.h_is_scheme (fun F => F.binds (ps := ["value"]) fun _ _ _ _ _ _ us hl => match us, hl with | [_], _ => rfl) fun F => t_is_scheme F T
/-! need_scheme -/
abbrev sl_need_scheme : List Str := ["value"]
theorem sc_need_scheme : FnScope sl_need_scheme ["value"] (defScope s_need_scheme) := ⟨rfl, rfl, rfl, by decide +kernel, rfl, by decide +kernel, by decide +kernel⟩
def f_need_scheme : FS := fun ws μ Q QX => ∃ d, ws = [.d d] ∧ μ = [] ∧ Plan d ∧ Q (.d .non) []
theorem len_need_scheme : ∀ ws μ Q QX, f_need_scheme ws μ Q QX → ws.length = 1 := by
  rintro _ _ _ _ ⟨_, rfl, _⟩
  rfl
theorem call_need_scheme {M : Mx} {Q : QE} {d : D} {ρ : List (Option W)} {μ : List Cell} (hd : Plan d) (q : Q (.d .non) ⟨ρ, μ⟩) : callD M f_need_scheme [.d d] ⟨ρ, μ⟩ Q :=
  callT (vs := [d]) rfl fun Q1 X1 k1 k2 _ => ⟨d, rfl, rfl, hd, k1 _ q⟩
theorem t_need_scheme {f : Addr} {fd : FuncData} (F : Fun K "need_scheme" "need_scheme" s_need_scheme f fd) (T : Txt K mg) : FnG P w K mg base 3 f fd ["value"] (spOf K f_need_scheme) := by
  obtain ⟨f_is_scheme', fd_is_scheme, m_is_scheme, k_is_scheme, b_is_scheme, g_is_scheme⟩ := d_is_scheme (P := P) (w := w) (base := base) T
  refine fn_dlG F sc_need_scheme len_need_scheme fun cdv A outer s H E hr hq => ?_
  have tk : Takes (cxOf (L2.CX P w) P w K mg base sl_need_scheme "need_scheme" (defScope s_need_scheme) f cdv A outer s H E) (fun cls d _ H => E cls d H) := takes_of rfl rfl rfl rfl
  refine ⟨_, (pss_one (ps_if (pt_not (pt_val (pe_callQ g_is_scheme (hr.mono (by decide)) hq (by rfl) m_is_scheme k_is_scheme b_is_scheme tk (pa_cons (pv 0) pa_nil)))) (pss_one ps_never) pss_nil)), ?_⟩
  intro ws μ Qd QX h
  obtain ⟨d, rfl, rfl, hd, q⟩ := h
  all_goals dsimp only [cxOf, endN, sl_need_scheme, List.map, List.append_eq, List.map_cons, List.map_nil, List.length_cons, List.length_nil, List.cons_append, List.nil_append, List.replicate_succ, List.replicate_zero, Nat.reduceAdd, Nat.reduceSub, Nat.zero_add, Nat.add_zero]
  walk_at "dl"
  refine call_is_scheme hd ?_
  walk_at "dl"
  exact ret0 q
theorem d_need_scheme (T : Txt K mg) : Dx P w K mg base 3 "need_scheme" ["value"] f_need_scheme := dx_mk T.h_need_scheme (fun F => F.binds (ps := ["value"]) fun _ _ _ _ _ _ us hl => match us, hl with | [_], _ => rfl) fun F => t_need_scheme F T
/-! need_houses -/
abbrev sl_need_houses : List Str := ["value"]
theorem sc_need_houses : FnScope sl_need_houses ["value"] (defScope s_need_houses) := ⟨rfl, rfl, rfl, by decide +kernel, rfl, by decide +kernel, by decide +kernel⟩
def f_need_houses : FS := fun ws μ Q QX => ∃ n : Int, ws = [.d (.int n)] ∧ μ = [] ∧ 1 ≤ n ∧ n ≤ 20 ∧ Q (.d .non) []
theorem len_need_houses : ∀ ws μ Q QX, f_need_houses ws μ Q QX → ws.length = 1 := by
  rintro _ _ _ _ ⟨_, rfl, _⟩
  rfl
theorem call_need_houses {M : Mx} {Q : QE} {n : Int} {ρ : List (Option W)} {μ : List Cell} (h1 : 1 ≤ n) (h2 : n ≤ 20) (q : Q (.d .non) ⟨ρ, μ⟩) : callD M f_need_houses [.d (.int n)] ⟨ρ, μ⟩ Q :=
  callT (vs := [.int n]) rfl fun Q1 X1 k1 k2 _ => ⟨n, rfl, rfl, h1, h2, k1 _ q⟩
theorem t_need_houses {f : Addr} {fd : FuncData} (F : Fun K "need_houses" "need_houses" s_need_houses f fd) (T : Txt K mg) : FnG P w K mg base 2 f fd ["value"] (spOf K f_need_houses) := by
  obtain ⟨f_is_integer', fd_is_integer, m_is_integer, k_is_integer, b_is_integer, g_is_integer⟩ := d_is_integer (P := P) (w := w) (base := base) T
  refine fn_dlG F sc_need_houses len_need_houses fun cdv A outer s H E hr hq => ?_
  have tk : Takes (cxOf (L2.CX P w) P w K mg base sl_need_houses "need_houses" (defScope s_need_houses) f cdv A outer s H E) (fun cls d _ H => E cls d H) := takes_of rfl rfl rfl rfl
  refine ⟨_, (pss_one (ps_if (pt_not (pt_val (pe_callQ g_is_integer (hr.mono (by decide)) hq (by rfl) m_is_integer k_is_integer b_is_integer tk (pa_cons (pv 0) (pa_cons pe_int (pa_cons (ge_MOST_HOUSES rfl T) pa_nil)))))) (pss_one ps_never) pss_nil)), ?_⟩
  intro ws μ Qd QX h
  obtain ⟨n, rfl, rfl, h1, h2, q⟩ := h
  all_goals dsimp only [cxOf, endN, sl_need_houses, List.map, List.append_eq, List.map_cons, List.map_nil, List.length_cons, List.length_nil, List.cons_append, List.nil_append, List.replicate_succ, List.replicate_zero, Nat.reduceAdd, Nat.reduceSub, Nat.zero_add, Nat.add_zero]
  walk_at "dl"
  refine call_is_integer tyn_int (.inr ⟨_, rfl⟩) ?_
  rw [show isIntD (.int n) 1 (.int 20) = true by simp [isIntD]; omega]
  walk_at "dl"
  exact ret0 q
theorem d_need_houses (T : Txt K mg) : Dx P w K mg base 2 "need_houses" ["value"] f_need_houses := dx_mk T.h_need_houses (fun F => F.binds (ps := ["value"]) fun _ _ _ _ _ _ us hl => match us, hl with | [_], _ => rfl) fun F => t_need_houses F T
/-! need_number -/
abbrev sl_need_number : List Str := ["value", "least", "most"]
theorem sc_need_number : FnScope sl_need_number ["value", "least", "most"] (defScope s_need_number) := ⟨rfl, rfl, rfl, by decide +kernel, rfl, by decide +kernel, by decide +kernel⟩
def f_need_number : FS := fun ws μ Q QX => ∃ (n l : Int) (m : D), ws = [.d (.int n), .d (.int l), .d m] ∧ μ = [] ∧ l ≤ n ∧ (m = .non ∨ ∃ j, m = .int j ∧ n ≤ j) ∧ Q (.d .non) []
theorem len_need_number : ∀ ws μ Q QX, f_need_number ws μ Q QX → ws.length = 3 := by
  rintro _ _ _ _ ⟨_, _, _, rfl, _⟩
  rfl
theorem call_need_number {M : Mx} {Q : QE} {n l : Int} {m : D} {ρ : List (Option W)} {μ : List Cell} (h1 : l ≤ n) (h2 : m = .non ∨ ∃ j, m = .int j ∧ n ≤ j) (q : Q (.d .non) ⟨ρ, μ⟩) : callD M f_need_number [.d (.int n), .d (.int l), .d m] ⟨ρ, μ⟩ Q :=
  callT (vs := [.int n, .int l, m]) rfl fun Q1 X1 k1 k2 _ => ⟨n, l, m, rfl, rfl, h1, h2, k1 _ q⟩
theorem t_need_number {f : Addr} {fd : FuncData} (F : Fun K "need_number" "need_number" s_need_number f fd) (T : Txt K mg) : FnG P w K mg base 2 f fd ["value", "least", "most"] (spOf K f_need_number) := by
  obtain ⟨f_is_integer', fd_is_integer, m_is_integer, k_is_integer, b_is_integer, g_is_integer⟩ := d_is_integer (P := P) (w := w) (base := base) T
  refine fn_dlG F sc_need_number len_need_number fun cdv A outer s H E hr hq => ?_
  have tk : Takes (cxOf (L2.CX P w) P w K mg base sl_need_number "need_number" (defScope s_need_number) f cdv A outer s H E) (fun cls d _ H => E cls d H) := takes_of rfl rfl rfl rfl
  refine ⟨_, (pss_one (ps_if (pt_not (pt_val (pe_callQ g_is_integer (hr.mono (by decide)) hq (by rfl) m_is_integer k_is_integer b_is_integer tk (pa_cons (pv 0) (pa_cons (pv 1) (pa_cons (pv 2) pa_nil)))))) (pss_one ps_never) pss_nil)), ?_⟩
  intro ws μ Qd QX h
  obtain ⟨n, l, m, rfl, rfl, h1, h2, q⟩ := h
  all_goals dsimp only [cxOf, endN, sl_need_number, List.map, List.append_eq, List.map_cons, List.map_nil, List.length_cons, List.length_nil, List.cons_append, List.nil_append, List.replicate_succ, List.replicate_zero, Nat.reduceAdd, Nat.reduceSub, Nat.zero_add, Nat.add_zero]
  walk_at "dl"
  refine call_is_integer tyn_int (h2.imp id fun ⟨j, e, _⟩ => ⟨j, e⟩) ?_
  rw [show isIntD (.int n) l m = true by rcases h2 with rfl | ⟨j, rfl, h3⟩ <;> simp [isIntD] <;> omega]
  walk_at "dl"
  exact ret0 q
theorem d_need_number (T : Txt K mg) : Dx P w K mg base 2 "need_number" ["value", "least", "most"] f_need_number := dx_mk T.h_need_number (fun F => F.binds (ps := ["value", "least", "most"]) fun _ _ _ _ _ _ us hl => match us, hl with | [_, _, _], _ => rfl) fun F => t_need_number F T
/-! size_of -/
abbrev sl_size_of : List Str := ["scheme"]
theorem sc_size_of : FnScope sl_size_of ["scheme"] (defScope s_size_of) := ⟨rfl, rfl, rfl, by decide +kernel, rfl, by decide +kernel, by decide +kernel⟩
/-- the size of lots -/
def sizeD : D → D
  | .tup [_, .int n] => .int n
  | .tup [_, .str _] => .int 1
  | _ => .non
def f_size_of : FS := fun ws μ Q QX => ∃ d, ws = [.d d] ∧ μ = [] ∧ Plan d ∧ Q (.d (sizeD d)) []
theorem len_size_of : ∀ ws μ Q QX, f_size_of ws μ Q QX → ws.length = 1 := by
  rintro _ _ _ _ ⟨_, rfl, _⟩
  rfl
theorem call_size_of {M : Mx} {Q : QE} {d : D} {ρ : List (Option W)} {μ : List Cell} (hd : Plan d) (q : Q (.d (sizeD d)) ⟨ρ, μ⟩) : callD M f_size_of [.d d] ⟨ρ, μ⟩ Q :=
  callT (vs := [d]) rfl fun Q1 X1 k1 k2 _ => ⟨d, rfl, rfl, hd, k1 _ q⟩
theorem t_size_of {f : Addr} {fd : FuncData} (F : Fun K "size_of" "size_of" s_size_of f fd) (T : Txt K mg) : FnG P w K mg base 1 f fd ["scheme"] (spOf K f_size_of) := by
  refine fn_dlG F sc_size_of len_size_of fun cdv A outer s H E hr hq => ?_
  have tk : Takes (cxOf (L2.CX P w) P w K mg base sl_size_of "size_of" (defScope s_size_of) f cdv A outer s H E) (fun cls d _ H => E cls d H) := takes_of rfl rfl rfl rfl
  refine ⟨_, (pss_cons (ps_if (pt_cmpR (op_eqT (by exact hr.units)) (pe_ix ix_seq (pv 0) pe_int (fun _ _ => rfl)) (ge_LATE rfl T) (nomark _)) (pss_one (ps_ret pe_non)) pss_nil)
      (pss_one (ps_ret (pe_ifExp (pt_cmpR (op_eqT (by exact hr.units)) (pe_ix ix_seq (pv 0) pe_int (fun _ _ => rfl)) (ge_POOL rfl T) (nomark _)) pe_int (pe_ix ix_seq (pv 0) pe_int (fun _ _ => rfl)))))), ?_⟩
  intro ws μ Qd QX h
  obtain ⟨d, rfl, rfl, hd, q⟩ := h
  all_goals dsimp only [cxOf, endN, sl_size_of, List.map, List.append_eq, List.map_cons, List.map_nil, List.length_cons, List.length_nil, List.cons_append, List.nil_append, List.replicate_succ, List.replicate_zero, Nat.reduceAdd, Nat.reduceSub, Nat.zero_add, Nat.add_zero]
  cases hd with
  | late =>
    walk_at "dl"
    exact ret0 q
  | lost n h1 h2 =>
    walk_at "dl"
    exact ret0 q
  | again n h1 h2 =>
    walk_at "dl"
    exact ret0 q
  | pool o ho =>
    walk_at "dl"
    exact ret0 q
theorem d_size_of (T : Txt K mg) : Dx P w K mg base 1 "size_of" ["scheme"] f_size_of := dx_mk T.h_size_of (fun F => F.binds (ps := ["scheme"]) fun _ _ _ _ _ _ us hl => match us, hl with | [_], _ => rfl) fun F => t_size_of F T
/-! late_weaving -/
abbrev sl_late_weaving : List Str := ["scheme", "houses", "distance", "others"]
theorem sc_late_weaving : FnScope sl_late_weaving ["scheme", "houses", "distance"] (defScope s_late_weaving) := ⟨rfl, rfl, rfl, by decide +kernel, rfl, by decide +kernel, by decide +kernel⟩
def actD (w : Str) (h : Int) : D := .tup [.str w, .int h]
/-- the weaving: others numbers of house 1 within a deed of house 0 -/
def weaveD (n : Nat) : List D := [actD "take" 0] ++ (List.replicate n [actD "take" 1, actD "end" 1]).flatten ++ [actD "end" 0]
def isLate : D → Bool
  | .tup [_] => true
  | _ => false
def othersD (p : D) (gap : Int) : Nat := match sizeD p with
  | .int n => (max 1 (gap - n + 1)).toNat
  | _ => 1
def f_late_weaving : FS := fun ws μ Q QX => ∃ (p : D) (n gap : Int), ws = [.d p, .d (.int n), .d (.int gap)] ∧ μ = [] ∧ Plan p ∧ 1 ≤ n ∧ n ≤ 20 ∧ 1 ≤ gap ∧ gap ≤ 300 ∧
  ((isLate p = true ∨ n = 1) → Q (.d .non) []) ∧ (isLate p = false → n ≠ 1 → Q (.c 0) [.pl (weaveD (othersD p gap))])
theorem len_late_weaving : ∀ ws μ Q QX, f_late_weaving ws μ Q QX → ws.length = 3 := by
  rintro _ _ _ _ ⟨_, _, _, rfl, _⟩
  rfl
theorem t_late_weaving {f : Addr} {fd : FuncData} (F : Fun K "late_weaving" "late_weaving" s_late_weaving f fd) (T : Txt K mg) : FnG P w K mg base 4 f fd ["scheme", "houses", "distance"] (spOf K f_late_weaving) := by
  obtain ⟨f_need_houses', fd_need_houses, m_need_houses, k_need_houses, b_need_houses, g_need_houses⟩ := d_need_houses (P := P) (w := w) (base := base) T
  obtain ⟨f_need_number', fd_need_number, m_need_number, k_need_number, b_need_number, g_need_number⟩ := d_need_number (P := P) (w := w) (base := base) T
  obtain ⟨f_need_scheme', fd_need_scheme, m_need_scheme, k_need_scheme, b_need_scheme, g_need_scheme⟩ := d_need_scheme (P := P) (w := w) (base := base) T
  obtain ⟨f_size_of', fd_size_of, m_size_of, k_size_of, b_size_of, g_size_of⟩ := d_size_of (P := P) (w := w) (base := base) T
  refine fn_dlG F sc_late_weaving len_late_weaving fun cdv A outer s H E hr hq => ?_
  have tk : Takes (cxOf (L2.CX P w) P w K mg base sl_late_weaving "late_weaving" (defScope s_late_weaving) f cdv A outer s H E) (fun cls d _ H => E cls d H) := takes_of rfl rfl rfl rfl
  refine ⟨_, (pss_cons (ps_expr (pe_callQ g_need_scheme (hr.mono (by decide)) hq (by rfl) m_need_scheme k_need_scheme b_need_scheme tk (pa_cons (pv 0) pa_nil)))
      (pss_cons (ps_expr (pe_callQ g_need_houses (hr.mono (by decide)) hq (by rfl) m_need_houses k_need_houses b_need_houses tk (pa_cons (pv 1) pa_nil)))
      (pss_cons (ps_expr (pe_callQ g_need_number (hr.mono (by decide)) hq (by rfl) m_need_number k_need_number b_need_number tk (pa_cons (pv 2) (pa_cons pe_int (pa_cons (ge_MOST_DISTANCE rfl T) pa_nil)))))
      (pss_cons (ps_if (pw_or (pt_cmpR (op_eqT (by exact hr.units)) (pe_ix ix_seq (pv 0) pe_int (fun _ _ => rfl)) (ge_LATE rfl T) (nomark _)) (pw_or1 (pt_cmpR (op_eqT (by exact hr.units)) (pv 1) pe_int (nomark _)))).pt (pss_one (ps_ret pe_non)) pss_nil)
      (pss_cons (ps_set (i := 3) sc_late_weaving.nd rfl (by first | exact Or.inl rfl | exact Or.inr rfl) (pe_callB (call_max2D rfl) (by rfl) T.n_max (by decide +kernel) (pa_cons pe_int (pa_cons (pe_op op_addA (pe_op op_sub (pv 2) (pe_callQ g_size_of (hr.mono (by decide)) hq (by rfl) m_size_of k_size_of b_size_of tk (pa_cons (pv 0) pa_nil))) pe_int) pa_nil))))
      (pss_one (ps_ret (pe_op op_addA (pe_op op_addA (pe_lst (pa_cons (pe_tup (pa_cons (ge_TAKE rfl T) (pa_cons pe_int pa_nil))) pa_nil)) (pe_op op_mulA (pe_lst (pa_cons (pe_tup (pa_cons (ge_TAKE rfl T) (pa_cons pe_int pa_nil))) (pa_cons (pe_tup (pa_cons (ge_END rfl T) (pa_cons pe_int pa_nil))) pa_nil))) (pv 3))) (pe_lst (pa_cons (pe_tup (pa_cons (ge_END rfl T) (pa_cons pe_int pa_nil))) pa_nil)))))))))), ?_⟩
  intro ws μ Qd QX h
  obtain ⟨p, n, gap, rfl, rfl, hp, h1, h2, h3, h4, q1, q2⟩ := h
  all_goals dsimp only [cxOf, endN, sl_late_weaving, List.map, List.append_eq, List.map_cons, List.map_nil, List.length_cons, List.length_nil, List.cons_append, List.nil_append, List.replicate_succ, List.replicate_zero, Nat.reduceAdd, Nat.reduceSub, Nat.zero_add, Nat.add_zero]
  walk_at "dl"
  refine call_need_scheme hp ?_
  walk_at "dl"
  refine call_need_houses h1 h2 ?_
  walk_at "dl"
  refine call_need_number h3 (.inr ⟨_, rfl, h4⟩) ?_
  cases hp with
  | late =>
    walk_at "dl"
    exact ret0 (q1 (.inl rfl))
  | lost m h5 h6 =>
    walk_at "dl"
    refine br_dec (fun hn => ?_) (fun hn => ?_)
    · walk_at "dl"
      exact ret0 (q1 (.inr hn))
    · walk_at "dl"
      refine call_size_of (.lost m h5 h6) ?_
      dsimp only [sizeD]
      walk_at "dl"
      refine wpE_lstA ?_
      walk_at "dl"
      walk_at "rept"
      refine opD_cat .t .t (by simp; omega) ?_
      refine wpE_lstA ?_
      walk_at "dl"
      refine opD_catC .t .t (by simp; omega) ?_
      walk_at "retc"
      exact q2 rfl hn
  | again m h5 h6 =>
    walk_at "dl"
    refine br_dec (fun hn => ?_) (fun hn => ?_)
    · walk_at "dl"
      exact ret0 (q1 (.inr hn))
    · walk_at "dl"
      refine call_size_of (.again m h5 h6) ?_
      dsimp only [sizeD]
      walk_at "dl"
      refine wpE_lstA ?_
      walk_at "dl"
      walk_at "rept"
      refine opD_cat .t .t (by simp; omega) ?_
      refine wpE_lstA ?_
      walk_at "dl"
      refine opD_catC .t .t (by simp; omega) ?_
      walk_at "retc"
      exact q2 rfl hn
  | pool o ho =>
    walk_at "dl"
    refine br_dec (fun hn => ?_) (fun hn => ?_)
    · walk_at "dl"
      exact ret0 (q1 (.inr hn))
    · walk_at "dl"
      refine call_size_of (.pool o ho) ?_
      dsimp only [sizeD]
      walk_at "dl"
      refine wpE_lstA ?_
      walk_at "dl"
      walk_at "rept"
      refine opD_cat .t .t (by simp; omega) ?_
      refine wpE_lstA ?_
      walk_at "dl"
      refine opD_catC .t .t (by simp; omega) ?_
      walk_at "retc"
      exact q2 rfl hn
theorem d_late_weaving (T : Txt K mg) : Dx P w K mg base 4 "late_weaving" ["scheme", "houses", "distance"] f_late_weaving := dx_mk T.h_late_weaving (fun F => F.binds (ps := ["scheme", "houses", "distance"]) fun _ _ _ _ _ _ us hl => match us, hl with | [_, _, _], _ => rfl) fun F => t_late_weaving F T
theorem d0_late_weaving (T : Txt K mg) : Dk P w K mg base 4 "late_weaving" ["scheme", "houses", "distance"] ["distance", "houses", "scheme"] (mix 0 3 [2, 1, 0]) f_late_weaving := by
  refine dk_mk T.h_late_weaving (fun F => ?_) fun F => t_late_weaving F T
  obtain ⟨oc, od, kV, doc, pm, an, cdv, ct, osl, rfl, lk, hcd⟩ := F.ex
  exact kb_mk (fun us zs h1 h2 => match us, zs, h1, h2 with | [], [_, _, _], _, _ => rfl) (by decide)
/-! _law_source -/
abbrev sl__law_source : List Str := ["cell", "k", "far"]
theorem sc__law_source : FnScope sl__law_source ["cell", "k"] (defScope s__law_source) := ⟨rfl, rfl, rfl, by decide +kernel, rfl, by decide +kernel, by decide +kernel⟩
/-- the source of drawn numbers: at most b of them drawn so far -/
def SrcD (b : Nat) (ds : List D) : Prop := ∃ x y c : Int, ds = [.int x, .int y, .int c] ∧ 0 ≤ x ∧ 0 ≤ y ∧ y < 10 ^ 42 ∧ 0 ≤ c ∧ c ≤ b
theorem SrcD.up {b b' : Nat} {ds : List D} (h : SrcD b ds) (hb : b ≤ b') : SrcD b' ds := by
  obtain ⟨x, y, c, e, h1, h2, h3, h4, h5⟩ := h
  exact ⟨x, y, c, e, h1, h2, h3, h4, by omega⟩
def f__law_source : FS := fun ws μ Q QX => ∃ x k : Int, ws = [.d (.int x), .d (.int k)] ∧ μ = [] ∧ 0 ≤ k ∧ k < 1000 ∧ ∀ ds, SrcD 0 ds → Q (.c 0) [.pl ds]
theorem len__law_source : ∀ ws μ Q QX, f__law_source ws μ Q QX → ws.length = 2 := by
  rintro _ _ _ _ ⟨_, _, rfl, _⟩
  rfl
theorem t__law_source {f : Addr} {fd : FuncData} (F : Fun K "_law_source" "_law_source" s__law_source f fd) (T : Txt K mg) : FnG P w K mg base 1 f fd ["cell", "k"] (spOf K f__law_source) := by
  refine fn_dlG F sc__law_source len__law_source fun cdv A outer s H E hr hq => ?_
  have tk : Takes (cxOf (L2.CX P w) P w K mg base sl__law_source "_law_source" (defScope s__law_source) f cdv A outer s H E) (fun cls d _ H => E cls d H) := takes_of rfl rfl rfl rfl
  refine ⟨_, (pss_cons (ps_set (i := 2) sc__law_source.nd rfl (by first | exact Or.inl rfl | exact Or.inr rfl) (pe_callB call_absD (by rfl) T.n_abs (by decide +kernel) (pa_cons (pv 0) pa_nil)))
      (pss_one (ps_ret (pe_lst (pa_cons (pe_callB (call_max2D rfl) (by rfl) T.n_max (by decide +kernel) (pa_cons pe_int (pa_cons (pe_op op_sub (pv 2) (pe_op op_powW pe_int pe_int)) pa_nil))) (pa_cons (pe_op op_addA (pe_op op_addA (pe_op op_mulA (pe_op op_mod (pe_callTy call_int1D (by rfl) T.n_int (by decide +kernel) (pa_cons (pv 2) pa_nil)) (pe_op op_addA (pe_op op_powW pe_int pe_int) pe_int)) pe_int) (pe_op op_mulA pe_int (pv 1))) (pe_callTy call_int1D (by rfl) T.n_int (by decide +kernel) (pa_cons (pe_cmpR op_lt (pv 0) pe_int (nomark _)) pa_nil))) (pa_cons pe_int pa_nil))))))), ?_⟩
  intro ws μ Qd QX h
  obtain ⟨x, k, rfl, rfl, h0, h1, q⟩ := h
  all_goals dsimp only [cxOf, endN, sl__law_source, List.map, List.append_eq, List.map_cons, List.map_nil, List.length_cons, List.length_nil, List.cons_append, List.nil_append, List.replicate_succ, List.replicate_zero, Nat.reduceAdd, Nat.reduceSub, Nat.zero_add, Nat.add_zero]
  walk_at "dl"
  refine wpE_lstB ?_
  walk_at "dl"
  walk_at "retc"
  refine q _ ⟨_, _, _, rfl, ?_, ?_, ?_, ?_, ?_⟩
  · omega
  · split <;> omega
  · split <;> omega
  · omega
  · omega
theorem d__law_source (T : Txt K mg) : Dx P w K mg base 1 "_law_source" ["cell", "k"] f__law_source := dx_mk T.h__law_source (fun F => F.binds (ps := ["cell", "k"]) fun _ _ _ _ _ _ us hl => match us, hl with | [_, _], _ => rfl) fun F => t__law_source F T
/-! _law_draw -/
abbrev sl__law_draw : List Str := ["source", "count", "digit", "mixed"]
theorem sc__law_draw : FnScope sl__law_draw ["source", "count"] (defScope s__law_draw) := ⟨rfl, rfl, rfl, by decide +kernel, rfl, by decide +kernel, by decide +kernel⟩
def f__law_draw : FS := fun ws μ Q QX => ∃ (b : Nat) (ds : List D) (n : Int), ws = [.c 0, .d (.int n)] ∧ μ = [.pl ds] ∧ SrcD b ds ∧ b ≤ 1000000000 ∧ 0 < n ∧ n < 2 ^ 200 ∧ ∀ r ds', 0 ≤ r → r < n → SrcD (b + 1) ds' → Q (.d (.int r)) [.pl ds']
theorem len__law_draw : ∀ ws μ Q QX, f__law_draw ws μ Q QX → ws.length = 2 := by
  rintro _ _ _ _ ⟨_, _, _, rfl, _⟩
  rfl
theorem call_draw {M : Mx} {Q : QE} {k b : Nat} {n : Int} {ds : List D} {ρ : List (Option W)} {μ : List Cell} (h : μ[k]? = some (.pl ds)) (hs : SrcD b ds) (hb : b ≤ 1000000000) (h0 : 0 < n) (h1 : n < 2 ^ 200)
    (q : ∀ r ds', 0 ≤ r → r < n → SrcD (b + 1) ds' → Q (.d (.int r)) ⟨ρ, μ.set k (.pl ds')⟩) : callD M f__law_draw [.c k, .d (.int n)] ⟨ρ, μ⟩ Q :=
  call1 (vs := [.int n]) h rfl fun Q1 X1 k1 k2 => ⟨b, ds, n, rfl, rfl, hs, hb, h0, h1, fun r ds' h2 h3 h4 => k1 _ _ (after1_d (q r ds' h2 h3 h4))⟩
local macro_rules | `(tactic| walk_at "draw") => `(tactic|
 (((with_reducible apply call_draw); (first | exact rfl | assumption | (refine List.getElem?_set_self ?_; (try simp only [List.length_set]); assumption)); assumption; omega; omega; omega; intro r ds' hr0 hr1 hs)))
local macro_rules | `(tactic| walk_at "dw") => `(tactic|
 (((repeat (first
  | ((with_reducible show wpS _ _ _ _); first
    | (with_reducible refine ws_seq ?_)
    | (with_reducible refine ws_asg ?_)
    | (with_reducible refine wpS_ifs ?_)
    | (with_reducible refine ws_ret ?_)
    | (with_reducible refine ws_retN ?_)
    | (with_reducible refine ws_drop ?_)
    | (with_reducible refine ws_next ?_)
    | (with_reducible refine ws_brk ?_)
    | (with_reducible refine ws_cont ?_))
  | ((with_reducible show wpE _ _ _ _); first
    | ((with_reducible apply wpE_var); exact rfl)
    | (with_reducible refine wpE_int ?_)
    | (with_reducible refine wpE_str ?_)
    | (with_reducible refine wpE_repA ?_)
    | (with_reducible refine wpE_op ?_)
    | (with_reducible refine wpE_cb ?_)
    | (with_reducible refine wpE_callS ?_)
    | (with_reducible refine wpE_tupA ?_)
    | (with_reducible refine wpE_bl ?_)
    | (with_reducible refine wpE_non ?_)
    | (with_reducible refine wpE_ty ?_)
    | (with_reducible refine wpE_kt ?_)
    | (with_reducible refine wpE_sl ?_)
    | (with_reducible refine wpE_bm ?_)
    | (with_reducible refine wpE_bm0 ?_)
    | (with_reducible refine wpE_dget ?_)
    | (with_reducible refine wpE_dispA ?_)
    | (with_reducible refine wpE_un ?_)
    | (with_reducible refine wpE_if ?_)
    | (with_reducible refine wpE_callKS ?_)
    | (with_reducible refine wpE_callN ?_)
    | (with_reducible refine wpE_andV ?_)
    | (with_reducible refine wpE_orV ?_)
    | (with_reducible refine wpE_notV ?_)
    | (with_reducible refine wpE_chain ?_))
  | ((with_reducible show wpA _ _ _ _); first
    | (with_reducible refine wpA_cons ?_)
    | (with_reducible refine wpA_nil ?_))
  | ((with_reducible show wpT _ _ _ _); first
    | (with_reducible refine wpT_test ?_)
    | (with_reducible refine wpT_B ?_)
    | (with_reducible refine wpT_not ?_)
    | (with_reducible refine wpT_and ?_)
    | (with_reducible refine wpT_or ?_)
    | (with_reducible refine wpT_yes ?_))
  | ((with_reducible show wpG _ _ _ _ _); first
    | (with_reducible refine wpG_nm ?_)
    | (with_reducible refine wpG_set ?_)
    | ((with_reducible apply wpG_tup); exact rfl)
    | (with_reducible refine wpG_name ?_))
  | ((with_reducible show opD _ _ _ _ _ _); first
    | (with_reducible refine opD_addI ?_)
    | (with_reducible refine opD_I0 ?_)
    | (with_reducible refine opD_B0 ?_)
    | (with_reducible refine opD_eqTI ?_)
    | (with_reducible refine opD_neTI ?_)
    | ((with_reducible apply opD_ixtT); exact rfl; exact rfl)
    | ((with_reducible apply opD_ixlL); exact rfl; exact rfl)
    | ((with_reducible apply opD_ixcC); exact rfl; exact rfl; exact rfl)
    | ((with_reducible apply opD_ixcM); exact rfl; exact rfl; exact rfl)
    | ((with_reducible refine opD_eqTSt ?_ ?_); decide +kernel)
    | ((with_reducible refine opD_eqTSf ?_ ?_); decide +kernel)
    | ((with_reducible refine opD_neTSt ?_ ?_); decide +kernel)
    | ((with_reducible refine opD_neTSf ?_ ?_); decide +kernel)
    | (with_reducible refine opD_isNon1 ?_)
    | (with_reducible refine opD_isNonc ?_)
    | ((with_reducible refine opD_isNonf ?_ ?_); exact rfl)
    | (with_reducible refine opD_notNon1 ?_)
    | (with_reducible refine opD_notNonc ?_)
    | ((with_reducible refine opD_notNonf ?_ ?_); exact rfl)
    | ((with_reducible apply opD_modG); omega; intro r hr0 hr1 hre)
    | ((with_reducible apply opD_divG); omega; intro r hre)
    | ((with_reducible apply opD_mulG); omega)
    | ((with_reducible apply opD_powC); (unfold CPw; decide); ((with_reducible simp only [Int.reduceToNat, Int.reducePow]); exact rfl))
    | ((with_reducible apply opD_powG); omega)
    | (with_reducible refine opD_eqTB ?_)
    | (with_reducible refine opD_neTB ?_)
    | ((with_reducible refine opD_inTt ?_ ?_ ?_ ?_); exact rfl; exact rfl; decide +kernel)
    | ((with_reducible refine opD_inTf ?_ ?_ ?_ ?_); exact rfl; exact rfl; decide +kernel)
    | ((with_reducible refine opD_inLt ?_ ?_ ?_ ?_); exact rfl; exact rfl; decide +kernel)
    | ((with_reducible refine opD_inLf ?_ ?_ ?_ ?_); exact rfl; exact rfl; decide +kernel)
    | ((with_reducible refine opD_ninTt ?_ ?_ ?_ ?_); exact rfl; exact rfl; decide +kernel)
    | ((with_reducible refine opD_ninTf ?_ ?_ ?_ ?_); exact rfl; exact rfl; decide +kernel)
    | ((with_reducible refine opD_ninLt ?_ ?_ ?_ ?_); exact rfl; exact rfl; decide +kernel)
    | ((with_reducible refine opD_ninLf ?_ ?_ ?_ ?_); exact rfl; exact rfl; decide +kernel)
    | (with_reducible refine opD_eqI ?_))
  | ((with_reducible show unD _ _ _ _ _); first
    | (with_reducible refine unD_neg ?_))
  | ((with_reducible show cbD _ _ _ _ _); first
    | (with_reducible refine cbD_intI ?_)
    | (with_reducible refine cbD_intB ?_)
    | (with_reducible refine cbD_lenT ?_)
    | (with_reducible refine cbD_lenL .t ?_)
    | ((with_reducible apply cbD_lenL); exact Val.pl rfl)
    | (with_reducible refine cbD_abs ?_)
    | (with_reducible refine cbD_max2 ?_)
    | (with_reducible refine cbD_min2 ?_)
    | (with_reducible refine cbD_range1 ?_)
    | ((with_reducible refine isi_It ?_ ?_); exact rfl)
    | ((with_reducible refine isi_If ?_ ?_ ?_); (first | assumption | exact tyn_int | exact tyn_str | exact tyn_lst | exact tyn_tup | exact tyn_bl | exact tyn_non | exact tyn_dic); exact rfl)
    | ((with_reducible refine isi_Bt ?_ ?_); exact rfl)
    | ((with_reducible refine isi_Bf ?_ ?_ ?_); (first | assumption | exact tyn_int | exact tyn_str | exact tyn_lst | exact tyn_tup | exact tyn_bl | exact tyn_non | exact tyn_dic); exact rfl)
    | ((with_reducible refine isi_St ?_ ?_); exact rfl)
    | ((with_reducible refine isi_Sf ?_ ?_ ?_); (first | assumption | exact tyn_int | exact tyn_str | exact tyn_lst | exact tyn_tup | exact tyn_bl | exact tyn_non | exact tyn_dic); exact rfl)
    | ((with_reducible refine isi_Lt ?_ ?_); exact rfl)
    | ((with_reducible refine isi_Lf ?_ ?_ ?_); (first | assumption | exact tyn_int | exact tyn_str | exact tyn_lst | exact tyn_tup | exact tyn_bl | exact tyn_non | exact tyn_dic); exact rfl)
    | ((with_reducible refine isi_Tt ?_ ?_); exact rfl)
    | ((with_reducible refine isi_Tf ?_ ?_ ?_); (first | assumption | exact tyn_int | exact tyn_str | exact tyn_lst | exact tyn_tup | exact tyn_bl | exact tyn_non | exact tyn_dic); exact rfl)
    | ((with_reducible refine isi_Dt ?_ ?_); exact rfl)
    | ((with_reducible refine isi_Df ?_ ?_ ?_); (first | assumption | exact tyn_int | exact tyn_str | exact tyn_lst | exact tyn_tup | exact tyn_bl | exact tyn_non | exact tyn_dic); exact rfl))
  | ((with_reducible show setW _ _ _ _ _); first
    | ((with_reducible apply setW_pl); exact rfl; exact rfl)
    | ((with_reducible apply setW_ml); exact rfl; exact rfl))
  | ((with_reducible show litW _ _); first
    | ((with_reducible apply litW_mk); exact rfl; exact rfl))
  | ((with_reducible show (_ = true → _) ∧ (_ = false → _)); first
    | (with_reducible refine br_t ?_)
    | (with_reducible refine br_f ?_)
    | (with_reducible refine br_nott ?_)
    | (with_reducible refine br_notf ?_)
    | ((with_reducible apply br_yes); (first | omega | exact of_decide_eq_true rfl))
    | ((with_reducible apply br_no); (first | omega | exact of_decide_eq_false rfl))
    | ((with_reducible apply br_nyes); (first | omega | exact of_decide_eq_true rfl))
    | ((with_reducible apply br_nno); (first | omega | exact of_decide_eq_false rfl)))
  | ((with_reducible apply And.intro); exact Exists.intro _ (Val.pl rfl))
  | (with_reducible refine wpPs_cons ?_)
  | (with_reducible refine wpGs_dcons ?_)
  | (with_reducible refine wpGs_dnil ?_)
  | (with_reducible refine wpPs_nil ?_)
  | (with_reducible refine po_no ?_)
  | (with_reducible refine po_ptI ?_)
  | (with_reducible refine asIntW_mk ?_)
  | ((with_reducible apply litP_mk); exact rfl; exact rfl; (dsimp only [List.map]; decide +kernel))
  | ((with_reducible apply dgetW_s); exact rfl)
  | ((with_reducible apply dgetW_i); exact rfl)
  | (with_reducible refine Exists.intro _ (And.intro (Eq.refl (W.d (D.bl _))) ?_))
  | ((with_reducible apply call_draw); (first | exact rfl | assumption | (refine List.getElem?_set_self ?_; (try simp only [List.length_set]); assumption)); assumption; omega; omega; omega; intro r ds' hr0 hr1 hs)));
    (try dsimp only [List.nil_append, List.cons_append, List.length_cons, List.length_nil, Nat.reduceAdd, Nat.zero_add, List.set_cons_zero, List.set_cons_succ, Int.toNat_natCast]))))
local macro_rules | `(tactic| walk_at "dwh") => `(tactic|
 (((repeat (first
  | ((with_reducible show wpS _ _ _ _); first
    | (with_reducible refine ws_seq ?_)
    | (with_reducible refine ws_asg ?_)
    | (with_reducible refine wpS_ifs ?_)
    | (with_reducible refine ws_ret ?_)
    | (with_reducible refine ws_retN ?_)
    | (with_reducible refine ws_drop ?_)
    | (with_reducible refine ws_next ?_)
    | (with_reducible refine ws_brk ?_)
    | (with_reducible refine ws_cont ?_))
  | ((with_reducible show wpE _ _ _ _); first
    | ((with_reducible apply wpE_var); exact rfl)
    | (with_reducible refine wpE_int ?_)
    | (with_reducible refine wpE_str ?_)
    | (with_reducible refine wpE_repA ?_)
    | (with_reducible refine wpE_op ?_)
    | (with_reducible refine wpE_cb ?_)
    | (with_reducible refine wpE_callS ?_)
    | (with_reducible refine wpE_tupA ?_)
    | (with_reducible refine wpE_bl ?_)
    | (with_reducible refine wpE_non ?_)
    | (with_reducible refine wpE_ty ?_)
    | (with_reducible refine wpE_kt ?_)
    | (with_reducible refine wpE_sl ?_)
    | (with_reducible refine wpE_bm ?_)
    | (with_reducible refine wpE_bm0 ?_)
    | (with_reducible refine wpE_dget ?_)
    | (with_reducible refine wpE_dispA ?_)
    | (with_reducible refine wpE_un ?_)
    | (with_reducible refine wpE_if ?_)
    | (with_reducible refine wpE_callKS ?_)
    | (with_reducible refine wpE_callN ?_)
    | (with_reducible refine wpE_andV ?_)
    | (with_reducible refine wpE_orV ?_)
    | (with_reducible refine wpE_notV ?_)
    | (with_reducible refine wpE_chain ?_))
  | ((with_reducible show wpA _ _ _ _); first
    | (with_reducible refine wpA_cons ?_)
    | (with_reducible refine wpA_nil ?_))
  | ((with_reducible show wpT _ _ _ _); first
    | (with_reducible refine wpT_test ?_)
    | (with_reducible refine wpT_B ?_)
    | (with_reducible refine wpT_not ?_)
    | (with_reducible refine wpT_and ?_)
    | (with_reducible refine wpT_or ?_)
    | (with_reducible refine wpT_yes ?_))
  | ((with_reducible show wpG _ _ _ _ _); first
    | (with_reducible refine wpG_nm ?_)
    | (with_reducible refine wpG_set ?_)
    | ((with_reducible apply wpG_tup); exact rfl)
    | (with_reducible refine wpG_name ?_))
  | ((with_reducible show opD _ _ _ _ _ _); first
    | (with_reducible refine opD_addI ?_)
    | (with_reducible refine opD_I0 ?_)
    | (with_reducible refine opD_B0 ?_)
    | (with_reducible refine opD_eqTI ?_)
    | (with_reducible refine opD_neTI ?_)
    | ((with_reducible apply opD_ixtT); exact rfl; exact rfl)
    | ((with_reducible apply opD_ixlL); exact rfl; exact rfl)
    | ((with_reducible apply opD_ixcC); exact rfl; exact rfl; exact rfl)
    | ((with_reducible apply opD_ixcM); exact rfl; exact rfl; exact rfl)
    | ((with_reducible refine opD_eqTSt ?_ ?_); decide +kernel)
    | ((with_reducible refine opD_eqTSf ?_ ?_); decide +kernel)
    | ((with_reducible refine opD_neTSt ?_ ?_); decide +kernel)
    | ((with_reducible refine opD_neTSf ?_ ?_); decide +kernel)
    | (with_reducible refine opD_isNon1 ?_)
    | (with_reducible refine opD_isNonc ?_)
    | ((with_reducible refine opD_isNonf ?_ ?_); exact rfl)
    | (with_reducible refine opD_notNon1 ?_)
    | (with_reducible refine opD_notNonc ?_)
    | ((with_reducible refine opD_notNonf ?_ ?_); exact rfl)
    | ((with_reducible apply opD_modG); omega; intro r hr0 hr1 hre)
    | ((with_reducible apply opD_divG); omega; intro r hre)
    | ((with_reducible apply opD_mulG); omega)
    | ((with_reducible apply opD_powC); (unfold CPw; decide); ((with_reducible simp only [Int.reduceToNat, Int.reducePow]); exact rfl))
    | ((with_reducible apply opD_powG); omega)
    | (with_reducible refine opD_eqTB ?_)
    | (with_reducible refine opD_neTB ?_)
    | ((with_reducible refine opD_inTt ?_ ?_ ?_ ?_); exact rfl; exact rfl; decide +kernel)
    | ((with_reducible refine opD_inTf ?_ ?_ ?_ ?_); exact rfl; exact rfl; decide +kernel)
    | ((with_reducible refine opD_inLt ?_ ?_ ?_ ?_); exact rfl; exact rfl; decide +kernel)
    | ((with_reducible refine opD_inLf ?_ ?_ ?_ ?_); exact rfl; exact rfl; decide +kernel)
    | ((with_reducible refine opD_ninTt ?_ ?_ ?_ ?_); exact rfl; exact rfl; decide +kernel)
    | ((with_reducible refine opD_ninTf ?_ ?_ ?_ ?_); exact rfl; exact rfl; decide +kernel)
    | ((with_reducible refine opD_ninLt ?_ ?_ ?_ ?_); exact rfl; exact rfl; decide +kernel)
    | ((with_reducible refine opD_ninLf ?_ ?_ ?_ ?_); exact rfl; exact rfl; decide +kernel)
    | (with_reducible refine opD_eqI ?_))
  | ((with_reducible show unD _ _ _ _ _); first
    | (with_reducible refine unD_neg ?_))
  | ((with_reducible show cbD _ _ _ _ _); first
    | (with_reducible refine cbD_intI ?_)
    | (with_reducible refine cbD_intB ?_)
    | (with_reducible refine cbD_lenT ?_)
    | (with_reducible refine cbD_lenL .t ?_)
    | ((with_reducible apply cbD_lenL); exact Val.pl rfl)
    | (with_reducible refine cbD_abs ?_)
    | (with_reducible refine cbD_max2 ?_)
    | (with_reducible refine cbD_min2 ?_)
    | (with_reducible refine cbD_range1 ?_)
    | ((with_reducible refine isi_It ?_ ?_); exact rfl)
    | ((with_reducible refine isi_If ?_ ?_ ?_); (first | assumption | exact tyn_int | exact tyn_str | exact tyn_lst | exact tyn_tup | exact tyn_bl | exact tyn_non | exact tyn_dic); exact rfl)
    | ((with_reducible refine isi_Bt ?_ ?_); exact rfl)
    | ((with_reducible refine isi_Bf ?_ ?_ ?_); (first | assumption | exact tyn_int | exact tyn_str | exact tyn_lst | exact tyn_tup | exact tyn_bl | exact tyn_non | exact tyn_dic); exact rfl)
    | ((with_reducible refine isi_St ?_ ?_); exact rfl)
    | ((with_reducible refine isi_Sf ?_ ?_ ?_); (first | assumption | exact tyn_int | exact tyn_str | exact tyn_lst | exact tyn_tup | exact tyn_bl | exact tyn_non | exact tyn_dic); exact rfl)
    | ((with_reducible refine isi_Lt ?_ ?_); exact rfl)
    | ((with_reducible refine isi_Lf ?_ ?_ ?_); (first | assumption | exact tyn_int | exact tyn_str | exact tyn_lst | exact tyn_tup | exact tyn_bl | exact tyn_non | exact tyn_dic); exact rfl)
    | ((with_reducible refine isi_Tt ?_ ?_); exact rfl)
    | ((with_reducible refine isi_Tf ?_ ?_ ?_); (first | assumption | exact tyn_int | exact tyn_str | exact tyn_lst | exact tyn_tup | exact tyn_bl | exact tyn_non | exact tyn_dic); exact rfl)
    | ((with_reducible refine isi_Dt ?_ ?_); exact rfl)
    | ((with_reducible refine isi_Df ?_ ?_ ?_); (first | assumption | exact tyn_int | exact tyn_str | exact tyn_lst | exact tyn_tup | exact tyn_bl | exact tyn_non | exact tyn_dic); exact rfl))
  | ((with_reducible show setW _ _ _ _ _); first
    | ((with_reducible apply setW_pl); exact rfl; exact rfl)
    | ((with_reducible apply setW_ml); exact rfl; exact rfl))
  | ((with_reducible show litW _ _); first
    | ((with_reducible apply litW_mk); exact rfl; exact rfl))
  | ((with_reducible show (_ = true → _) ∧ (_ = false → _)); first
    | (with_reducible refine br_t ?_)
    | (with_reducible refine br_f ?_)
    | (with_reducible refine br_nott ?_)
    | (with_reducible refine br_notf ?_)
    | ((with_reducible apply br_yes); (first | omega | exact of_decide_eq_true rfl))
    | ((with_reducible apply br_no); (first | omega | exact of_decide_eq_false rfl))
    | ((with_reducible apply br_nyes); (first | omega | exact of_decide_eq_true rfl))
    | ((with_reducible apply br_nno); (first | omega | exact of_decide_eq_false rfl)))
  | ((with_reducible apply And.intro); exact Exists.intro _ (Val.pl rfl))
  | (with_reducible refine wpPs_cons ?_)
  | (with_reducible refine wpGs_dcons ?_)
  | (with_reducible refine wpGs_dnil ?_)
  | (with_reducible refine wpPs_nil ?_)
  | (with_reducible refine po_no ?_)
  | (with_reducible refine po_ptI ?_)
  | (with_reducible refine asIntW_mk ?_)
  | ((with_reducible apply litP_mk); exact rfl; exact rfl; (dsimp only [List.map]; decide +kernel))
  | ((with_reducible apply dgetW_s); exact rfl)
  | ((with_reducible apply dgetW_i); exact rfl)
  | (with_reducible refine Exists.intro _ (And.intro (Eq.refl (W.d (D.bl _))) ?_))
  | ((with_reducible apply call_draw); (first | exact rfl | assumption | (refine List.getElem?_set_self ?_; (try simp only [List.length_set]); assumption)); assumption; omega; omega; omega; intro r ds' hr0 hr1 hs)
  | ((with_reducible apply opD_ixcC); exact rfl; (refine ix_nat rfl ?_; (first | assumption | omega | ((try simp only [List.length_map, List.length_set, List.length_replicate]); first | assumption | omega))); (first | assumption | exact rfl | (refine List.getElem?_set_self ?_; (first | assumption | omega | ((try simp only [List.length_map, List.length_set, List.length_replicate]); first | assumption | omega)))))
  | ((with_reducible apply setW_pl); exact rfl; (refine ix_nat rfl ?_; (first | assumption | omega | ((try simp only [List.length_map, List.length_set, List.length_replicate]); first | assumption | omega))))
  | ((with_reducible refine opD_cat .t .t ?_ ?_); ((try simp only [List.length_map, List.length_cons, List.length_nil, List.length_append]); omega))
  | ((with_reducible apply mtD_app); exact rfl; ((try simp only [List.length_map, List.length_cons, List.length_nil, List.length_append, List.length_set, List.length_replicate]); omega))
  | (with_reducible refine wpE_lstA ?_)));
    (try dsimp only [List.nil_append, List.cons_append, List.length_cons, List.length_nil, Nat.reduceAdd, Nat.zero_add, List.set_cons_zero, List.set_cons_succ, Int.toNat_natCast]))))
theorem t__law_draw {f : Addr} {fd : FuncData} (F : Fun K "_law_draw" "_law_draw" s__law_draw f fd) (T : Txt K mg) : FnG P w K mg base 1 f fd ["source", "count"] (spOf K f__law_draw) := by
  refine fn_dlG F sc__law_draw len__law_draw fun cdv A outer s H E hr hq => ?_
  have tk : Takes (cxOf (L2.CX P w) P w K mg base sl__law_draw "_law_draw" (defScope s__law_draw) f cdv A outer s H E) (fun cls d _ H => E cls d H) := takes_of rfl rfl rfl rfl
  refine ⟨_, (pss_cons (ps_if (pt_cmpR op_gt (pe_ix ix_seq (pv 0) pe_int (fun _ _ => rfl)) pe_int (nomark _)) (pss_cons (ps_set (i := 2) sc__law_draw.nd rfl (by first | exact Or.inl rfl | exact Or.inr rfl) (pe_op op_mod (pe_callTy call_int1D (by rfl) T.n_int (by decide +kernel) (pa_cons (pe_ix ix_seq (pv 0) pe_int (fun _ _ => rfl)) pa_nil)) (pv 1)))
      (pss_cons (ps_asg (pe_op op_fdivW (pe_ix ix_seq (pv 0) pe_int (fun _ _ => rfl)) (pv 1)) (pg_sub (pv 0) pe_int set_list))
      (pss_one (ps_ret (pv 2))))) pss_nil)
      (pss_cons (ps_asg (pe_op op_addA (pe_ix ix_seq (pv 0) pe_int (fun _ _ => rfl)) pe_int) (pg_sub (pv 0) pe_int set_list))
      (pss_cons (ps_set (i := 3) sc__law_draw.nd rfl (by first | exact Or.inl rfl | exact Or.inr rfl) (pe_op op_mod (pe_callTy call_int1D (by rfl) T.n_int (by decide +kernel) (pa_cons (pe_op op_powW (pe_op op_addA (pe_ix ix_seq (pv 0) pe_int (fun _ _ => rfl)) (pe_op op_mulA pe_int (pe_ix ix_seq (pv 0) pe_int (fun _ _ => rfl)))) pe_int) pa_nil)) (pe_op op_addA (pe_op op_powW pe_int pe_int) pe_int)))
      (pss_cons (ps_set (i := 3) sc__law_draw.nd rfl (by first | exact Or.inl rfl | exact Or.inr rfl) (pe_op op_mod (pe_callTy call_int1D (by rfl) T.n_int (by decide +kernel) (pa_cons (pe_op op_powW (pe_op op_addA (pe_op op_mulA (pv 3) (pe_ix ix_seq (pv 0) pe_int (fun _ _ => rfl))) pe_int) pe_int) pa_nil)) (pe_op op_addA (pe_op op_powW pe_int pe_int) pe_int)))
      (pss_one (ps_ret (pe_op op_mod (pe_callTy call_int1D (by rfl) T.n_int (by decide +kernel) (pa_cons (pe_op op_fdivW (pv 3) pe_int) pa_nil)) (pv 1)))))))), ?_⟩
  intro ws μ Qd QX h
  obtain ⟨b, ds, n, rfl, rfl, ⟨x, y, c, rfl, hx, hy, hy2, hc, hc2⟩, hb, hn, hn2, q⟩ := h
  all_goals dsimp only [cxOf, endN, sl__law_draw, List.map, List.append_eq, List.map_cons, List.map_nil, List.length_cons, List.length_nil, List.cons_append, List.nil_append, List.replicate_succ, List.replicate_zero, Nat.reduceAdd, Nat.reduceSub, Nat.zero_add, Nat.add_zero]
  walk_at "dl"
  refine br_dec (fun hp => ?_) (fun hp => ?_)
  · walk_at "dl"
    rename_i r h1 h2 h3 r2 h4
    have h5 : 0 ≤ x / n := Int.ediv_nonneg (by omega) (by omega)
    exact ret1 (ds := [.int r2, .int y, .int c]) rfl (q r _ h1 h2 ⟨_, _, _, rfl, by omega, hy, hy2, hc, by omega⟩)
  · walk_at "dl"
    rename_i r h1 h2 h3
    have hm : r * (c + 1) ≤ 10 ^ 37 * 10 ^ 10 := Int.mul_le_mul (by omega) (by omega) (by omega) (by omega)
    have hm0 : 0 ≤ r * (c + 1) := Int.mul_nonneg h1 (by omega)
    walk_at "dl"
    rename_i r5 _ _ _ r2 _ r3 g1 g2 _
    exact ret1 (ds := [.int x, .int y, .int (c + 1)]) rfl (q r3 _ g1 g2 ⟨_, _, _, rfl, hx, hy, hy2, by omega, by omega⟩)
theorem d__law_draw (T : Txt K mg) : Dx P w K mg base 1 "_law_draw" ["source", "count"] f__law_draw := dx_mk T.h__law_draw (fun F => F.binds (ps := ["source", "count"]) fun _ _ _ _ _ _ us hl => match us, hl with | [_, _], _ => rfl) fun F => t__law_draw F T
/-! _law_size -/
abbrev sl__law_size : List Str := ["source"]
theorem sc__law_size : FnScope sl__law_size ["source"] (defScope s__law_size) := ⟨rfl, rfl, rfl, by decide +kernel, rfl, by decide +kernel, by decide +kernel⟩
def f__law_size : FS := fun ws μ Q QX => ∃ (b : Nat) (ds : List D), ws = [.c 0] ∧ μ = [.pl ds] ∧ SrcD b ds ∧ b ≤ 900000000 ∧ ∀ r ds', 1 ≤ r → r < 10 ^ 30 → SrcD (b + 3) ds' → Q (.d (.int r)) [.pl ds']
theorem len__law_size : ∀ ws μ Q QX, f__law_size ws μ Q QX → ws.length = 1 := by
  rintro _ _ _ _ ⟨_, _, rfl, _⟩
  rfl
theorem call_size {M : Mx} {Q : QE} {k b : Nat} {ds : List D} {ρ : List (Option W)} {μ : List Cell} (h : μ[k]? = some (.pl ds)) (hs : SrcD b ds) (hb : b ≤ 900000000)
    (q : ∀ r ds', 1 ≤ r → r < 10 ^ 30 → SrcD (b + 3) ds' → Q (.d (.int r)) ⟨ρ, μ.set k (.pl ds')⟩) : callD M f__law_size [.c k] ⟨ρ, μ⟩ Q :=
  call1 (vs := []) h rfl fun Q1 X1 k1 k2 => ⟨b, ds, rfl, rfl, hs, hb, fun r ds' h2 h3 h4 => k1 _ _ (after1_d (q r ds' h2 h3 h4))⟩
theorem t__law_size {f : Addr} {fd : FuncData} (F : Fun K "_law_size" "_law_size" s__law_size f fd) (T : Txt K mg) : FnG P w K mg base 2 f fd ["source"] (spOf K f__law_size) := by
  obtain ⟨f__law_draw', fd__law_draw, m__law_draw, k__law_draw, b__law_draw, g__law_draw⟩ := d__law_draw (P := P) (w := w) (base := base) T
  refine fn_dlG F sc__law_size len__law_size fun cdv A outer s H E hr hq => ?_
  have tk : Takes (cxOf (L2.CX P w) P w K mg base sl__law_size "_law_size" (defScope s__law_size) f cdv A outer s H E) (fun cls d _ H => E cls d H) := takes_of rfl rfl rfl rfl
  refine ⟨_, (pss_one (ps_ret (pe_ix ix_seq (pe_lst (pa_cons pe_int (pa_cons (pe_op op_addA pe_int (pe_callQ g__law_draw (hr.mono (by decide)) hq (by rfl) m__law_draw k__law_draw b__law_draw tk (pa_cons (pv 0) (pa_cons pe_int pa_nil)))) (pa_cons pe_int (pa_cons (pe_op op_addA pe_int (pe_callQ g__law_draw (hr.mono (by decide)) hq (by rfl) m__law_draw k__law_draw b__law_draw tk (pa_cons (pv 0) (pa_cons (pe_op op_sub (pe_op op_powW pe_int pe_int) pe_int) pa_nil)))) pa_nil))))) (pe_callQ g__law_draw (hr.mono (by decide)) hq (by rfl) m__law_draw k__law_draw b__law_draw tk (pa_cons (pv 0) (pa_cons pe_int pa_nil))) (fun _ _ => rfl)))), ?_⟩
  intro ws μ Qd QX h
  obtain ⟨b, ds, rfl, rfl, hs, hb, q⟩ := h
  all_goals dsimp only [cxOf, endN, sl__law_size, List.map, List.append_eq, List.map_cons, List.map_nil, List.length_cons, List.length_nil, List.cons_append, List.nil_append, List.replicate_succ, List.replicate_zero, Nat.reduceAdd, Nat.reduceSub, Nat.zero_add, Nat.add_zero]
  walk_at "dl"
  refine wpE_lstA ?_
  walk_at "dw"
  rename_i r1 d1 a1 a2 s1 r2 d2 a3 a4 s2 r3 d3 a5 a6 s3
  refine opD_ixE (by omega) (by simpa using a6) fun d hd => ?_
  simp only [List.mem_cons, List.not_mem_nil, or_false] at hd
  rcases hd with rfl | rfl | rfl | rfl
  all_goals exact ret1 rfl (q _ _ (by omega) (by omega) s3)
theorem d__law_size (T : Txt K mg) : Dx P w K mg base 2 "_law_size" ["source"] f__law_size := dx_mk T.h__law_size (fun F => F.binds (ps := ["source"]) fun _ _ _ _ _ _ us hl => match us, hl with | [_], _ => rfl) fun F => t__law_size F T
/-! _law_plan -/
abbrev sl__law_plan : List Str := ["source", "order", "far"]
theorem sc__law_plan : FnScope sl__law_plan ["source"] (defScope s__law_plan) := ⟨rfl, rfl, rfl, by decide +kernel, rfl, by decide +kernel, by decide +kernel⟩
def f__law_plan : FS := fun ws μ Q QX => ∃ (b : Nat) (ds : List D), ws = [.c 0] ∧ μ = [.pl ds] ∧ SrcD b ds ∧ b ≤ 800000000 ∧ ∀ p ds', Plan p → SrcD (b + 5) ds' → Q (.d p) [.pl ds']
theorem len__law_plan : ∀ ws μ Q QX, f__law_plan ws μ Q QX → ws.length = 1 := by
  rintro _ _ _ _ ⟨_, _, rfl, _⟩
  rfl
theorem call_plan {M : Mx} {Q : QE} {k b : Nat} {ds : List D} {ρ : List (Option W)} {μ : List Cell} (h : μ[k]? = some (.pl ds)) (hs : SrcD b ds) (hb : b ≤ 800000000)
    (q : ∀ p ds', Plan p → SrcD (b + 5) ds' → Q (.d p) ⟨ρ, μ.set k (.pl ds')⟩) : callD M f__law_plan [.c k] ⟨ρ, μ⟩ Q :=
  call1 (vs := []) h rfl fun Q1 X1 k1 k2 => ⟨b, ds, rfl, rfl, hs, hb, fun r ds' h2 h4 => k1 _ _ (after1_d (q r ds' h2 h4))⟩
theorem t__law_plan {f : Addr} {fd : FuncData} (F : Fun K "_law_plan" "_law_plan" s__law_plan f fd) (T : Txt K mg) : FnG P w K mg base 3 f fd ["source"] (spOf K f__law_plan) := by
  obtain ⟨f__law_draw', fd__law_draw, m__law_draw, k__law_draw, b__law_draw, g__law_draw⟩ := d__law_draw (P := P) (w := w) (base := base) T
  obtain ⟨f__law_size', fd__law_size, m__law_size, k__law_size, b__law_size, g__law_size⟩ := d__law_size (P := P) (w := w) (base := base) T
  refine fn_dlG F sc__law_plan len__law_plan fun cdv A outer s H E hr hq => ?_
  have tk : Takes (cxOf (L2.CX P w) P w K mg base sl__law_plan "_law_plan" (defScope s__law_plan) f cdv A outer s H E) (fun cls d _ H => E cls d H) := takes_of rfl rfl rfl rfl
  refine ⟨_, (pss_cons (ps_set (i := 1) sc__law_plan.nd rfl (by first | exact Or.inl rfl | exact Or.inr rfl) (pe_ix ix_seq (pe_lst (pa_cons pe_str (pa_cons pe_str (pa_cons pe_str (pa_cons pe_str pa_nil))))) (pe_callQ g__law_draw (hr.mono (by decide)) hq (by rfl) m__law_draw k__law_draw b__law_draw tk (pa_cons (pv 0) (pa_cons pe_int pa_nil))) (fun _ _ => rfl)))
      (pss_cons (ps_set (i := 2) sc__law_plan.nd rfl (by first | exact Or.inl rfl | exact Or.inr rfl) (pe_callQ g__law_size (hr.mono (by decide)) hq (by rfl) m__law_size k__law_size b__law_size tk (pa_cons (pv 0) pa_nil)))
      (pss_one (ps_ret (pe_ix ix_seq (pe_lst (pa_cons (pe_tup (pa_cons pe_str pa_nil)) (pa_cons (pe_tup (pa_cons pe_str (pa_cons (pv 2) pa_nil))) (pa_cons (pe_tup (pa_cons pe_str (pa_cons (pv 2) pa_nil))) (pa_cons (pe_tup (pa_cons pe_str (pa_cons (pv 2) pa_nil))) (pa_cons (pe_tup (pa_cons pe_str (pa_cons (pv 1) pa_nil))) pa_nil)))))) (pe_callQ g__law_draw (hr.mono (by decide)) hq (by rfl) m__law_draw k__law_draw b__law_draw tk (pa_cons (pv 0) (pa_cons pe_int pa_nil))) (fun _ _ => rfl)))))), ?_⟩
  intro ws μ Qd QX h
  obtain ⟨b, ds, rfl, rfl, hs, hb, q⟩ := h
  all_goals dsimp only [cxOf, endN, sl__law_plan, List.map, List.append_eq, List.map_cons, List.map_nil, List.length_cons, List.length_nil, List.cons_append, List.nil_append, List.replicate_succ, List.replicate_zero, Nat.reduceAdd, Nat.reduceSub, Nat.zero_add, Nat.add_zero]
  walk_at "dl"
  refine wpE_lstA ?_
  walk_at "dw"
  rename_i r1 d1 a1 a2 s1
  refine opD_ixE (by omega) (by simpa using a2) fun o ho => ?_
  have ho : ∃ x, o = .str x ∧ OrdD x := by
    simp only [List.mem_cons, List.not_mem_nil, or_false] at ho
    rcases ho with rfl | rfl | rfl | rfl
    · exact ⟨_, rfl, .least⟩
    · exact ⟨_, rfl, .greatest⟩
    · exact ⟨_, rfl, .oldest⟩
    · exact ⟨_, rfl, .newest⟩
  obtain ⟨x, rfl, hx⟩ := ho
  walk_at "dw"
  refine call_size rfl s1 (by omega) fun f d2 a3 a4 s2 => ?_
  walk_at "dw"
  refine wpE_lstA ?_
  walk_at "dw"
  rename_i r3 d3 a5 a6 s3
  refine opD_ixE (by omega) (by simpa using a6) fun d hd => ?_
  have hd : Plan d := by
    simp only [List.mem_cons, List.not_mem_nil, or_false] at hd
    rcases hd with rfl | rfl | rfl | rfl | rfl
    · exact .late
    · exact .lost _ a3 a4
    · exact .again _ a3 a4
    · exact .again _ a3 a4
    · exact .pool _ hx
  exact ret1 rfl (q _ _ hd (s3.up (by omega)))
theorem d__law_plan (T : Txt K mg) : Dx P w K mg base 3 "_law_plan" ["source"] f__law_plan := dx_mk T.h__law_plan (fun F => F.binds (ps := ["source"]) fun _ _ _ _ _ _ us hl => match us, hl with | [_], _ => rfl) fun F => t__law_plan F T
/-! _law_begun -/
abbrev sl__law_begun : List Str := ["firms"]
theorem sc__law_begun : FnScope sl__law_begun ["firms"] (defScope s__law_begun) := ⟨rfl, rfl, rfl, by decide +kernel, rfl, by decide +kernel, by decide +kernel⟩
inductive Ord4 where | least | greatest | oldest | newest
def Ord4.s : Ord4 → Str
  | .least => "least" | .greatest => "greatest" | .oldest => "oldest" | .newest => "newest"
inductive PT where | late | lost (n : Int) | again (n : Int) | pool (o : Ord4)
def PT.d : PT → D
  | .late => .tup [.str "late"] | .lost n => .tup [.str "lost", .int n] | .again n => .tup [.str "again", .int n] | .pool o => .tup [.str "pool", .str o.s]
def PT.ok : PT → Prop
  | .lost n => 1 ≤ n ∧ n < 10 ^ 30 | .again n => 1 ≤ n ∧ n < 10 ^ 30 | _ => True
theorem Plan.pt {d : D} (h : Plan d) : ∃ p : PT, p.ok ∧ d = p.d := by
  cases h with
  | late => exact ⟨.late, trivial, rfl⟩
  | lost n h1 h2 => exact ⟨.lost n, ⟨h1, h2⟩, rfl⟩
  | again n h1 h2 => exact ⟨.again n, ⟨h1, h2⟩, rfl⟩
  | pool o h =>
    cases h
    · exact ⟨.pool .least, trivial, rfl⟩
    · exact ⟨.pool .greatest, trivial, rfl⟩
    · exact ⟨.pool .oldest, trivial, rfl⟩
    · exact ⟨.pool .newest, trivial, rfl⟩
/-- the law's own state -/
structure LS where
  sold : List (Option Int)
  front : Int
  kept : List (Option (Int × Int))
  opened : List (Option (Option Int))
  lost : List (Int × Int)
  pool : List Int
def numD : Option Int → D
  | none => .non
  | some i => .int i
def stretchD (p : Int × Int) : D := .tup [.int p.1, .int p.2]
def keptD : Option (Int × Int) → D
  | none => .non
  | some p => stretchD p
def openD : Option (Option Int) → D
  | none => .non
  | some o => .tup [numD o]
def nowW (s : LS) (i j : Nat) : List W := [.d (.lst (s.sold.map numD)), .d (.int s.front), .c i, .c j, .d (.lst (s.lost.map stretchD)), .d (.lst (s.pool.map D.int))]
def stC (s : LS) : List Cell := [.ml (nowW s 1 2), .pl (s.kept.map keptD), .pl (s.opened.map openD)]
def LS.begin (n : Nat) : LS := ⟨[], 0, List.replicate n none, List.replicate n none, [], []⟩
def f__law_begun : FS := fun ws μ Q QX => ∃ n : Nat, ws = [.d (.int n)] ∧ μ = [] ∧ n ≤ 1000 ∧ Q (.c 0) (stC (LS.begin n))
theorem len__law_begun : ∀ ws μ Q QX, f__law_begun ws μ Q QX → ws.length = 1 := by
  rintro _ _ _ _ ⟨_, rfl, _⟩
  rfl
theorem t__law_begun {f : Addr} {fd : FuncData} (F : Fun K "_law_begun" "_law_begun" s__law_begun f fd) (T : Txt K mg) : FnG P w K mg base 1 f fd ["firms"] (spOf K f__law_begun) := by
  refine fn_dlG F sc__law_begun len__law_begun fun cdv A outer s H E hr hq => ?_
  have tk : Takes (cxOf (L2.CX P w) P w K mg base sl__law_begun "_law_begun" (defScope s__law_begun) f cdv A outer s H E) (fun cls d _ H => E cls d H) := takes_of rfl rfl rfl rfl
  refine ⟨_, (pss_one (ps_ret (pe_lst (pa_cons (pe_lst pa_nil) (pa_cons pe_int (pa_cons (pe_op op_mulA (pe_lst (pa_cons pe_non pa_nil)) (pv 0)) (pa_cons (pe_op op_mulA (pe_lst (pa_cons pe_non pa_nil)) (pv 0)) (pa_cons (pe_lst pa_nil) (pa_cons (pe_lst pa_nil) pa_nil))))))))), ?_⟩
  intro ws μ Qd QX h
  obtain ⟨n, rfl, rfl, hn, q⟩ := h
  all_goals dsimp only [cxOf, endN, sl__law_begun, List.map, List.append_eq, List.map_cons, List.map_nil, List.length_cons, List.length_nil, List.cons_append, List.nil_append, List.replicate_succ, List.replicate_zero, Nat.reduceAdd, Nat.reduceSub, Nat.zero_add, Nat.add_zero]
  walk_at "dl"
  refine wpE_lstW ?_
  walk_at "dl"
  refine wpE_lstA ?_
  walk_at "dl"
  walk_at "repc"
  walk_at "dl"
  walk_at "repc"
  walk_at "dl"
  refine wpE_lstA ?_
  walk_at "dl"
  refine wpE_lstA ?_
  walk_at "dl"
  refine ⟨by decide, ?_⟩
  apply ret_at [2, 0, 1]
  · rfl
  have e : (List.replicate n [D.non]).flatten = (List.replicate n (none : Option (Int × Int))).map keptD := by simp [keptD]
  have e2 : (List.replicate n [D.non]).flatten = (List.replicate n (none : Option (Option Int))).map openD := by simp [openD]
  have q2 := q
  unfold stC LS.begin nowW at q2
  rw [← e, ← e2] at q2
  exact q2
theorem d__law_begun (T : Txt K mg) : Dx P w K mg base 1 "_law_begun" ["firms"] f__law_begun := dx_mk T.h__law_begun (fun F => F.binds (ps := ["firms"]) fun _ _ _ _ _ _ us hl => match us, hl with | [_], _ => rfl) fun F => t__law_begun F T
/-! _law_dealt -/
abbrev sl__law_dealt : List Str := ["plan", "now", "firm", "kept", "pool", "spots", "one", "other", "low", "high"]
theorem sc__law_dealt : FnScope sl__law_dealt ["plan", "now", "firm"] (defScope s__law_dealt) := ⟨rfl, rfl, rfl, by decide +kernel, rfl, by decide +kernel, by decide +kernel⟩
def minL : List Int → Int
  | [] => 0
  | [x] => x
  | x :: xs => min x (minL xs)
def maxL : List Int → Int
  | [] => 0
  | [x] => x
  | x :: xs => max x (maxL xs)
def Ord4.pick (o : Ord4) (xs : List Int) : Int := match o with
  | .least => minL xs
  | .greatest => maxL xs
  | .oldest => xs.headD 0
  | .newest => xs.getLastD 0
theorem minL_spec : ∀ {xs : List Int}, xs ≠ [] → minL xs ∈ xs ∧ ∀ y ∈ xs, minL xs ≤ y
  | [], h => absurd rfl h
  | [x], _ => ⟨by simp [minL], fun y hy => by simp at hy; simp [minL, hy]⟩
  | x :: z :: xs, _ => by
    obtain ⟨h1, h2⟩ := minL_spec (xs := z :: xs) (by simp)
    have e : minL (x :: z :: xs) = min x (minL (z :: xs)) := rfl
    rw [e]
    refine ⟨?_, fun y hy => ?_⟩
    · by_cases q : x ≤ minL (z :: xs)
      · rw [Int.min_eq_left q]; exact List.mem_cons_self
      · rw [Int.min_eq_right (by omega)]; exact List.mem_cons_of_mem _ h1
    · rcases List.mem_cons.mp hy with rfl | hy
      · omega
      · have := h2 y hy; omega
theorem maxL_spec : ∀ {xs : List Int}, xs ≠ [] → maxL xs ∈ xs ∧ ∀ y ∈ xs, y ≤ maxL xs
  | [], h => absurd rfl h
  | [x], _ => ⟨by simp [maxL], fun y hy => by simp at hy; simp [maxL, hy]⟩
  | x :: z :: xs, _ => by
    obtain ⟨h1, h2⟩ := maxL_spec (xs := z :: xs) (by simp)
    have e : maxL (x :: z :: xs) = max x (maxL (z :: xs)) := rfl
    rw [e]
    refine ⟨?_, fun y hy => ?_⟩
    · by_cases q : maxL (z :: xs) ≤ x
      · rw [Int.max_eq_left q]; exact List.mem_cons_self
      · rw [Int.max_eq_right (by omega)]; exact List.mem_cons_of_mem _ h1
    · rcases List.mem_cons.mp hy with rfl | hy
      · omega
      · have := h2 y hy; omega
theorem min_is {xs : List Int} {m : Int} (h1 : m ∈ xs) (h2 : ∀ y ∈ xs, m ≤ y) : m = minL xs := by
  obtain ⟨h3, h4⟩ := minL_spec (xs := xs) (fun e => by rw [e] at h1; simp at h1)
  have := h2 _ h3
  have := h4 _ h1
  omega
theorem max_is {xs : List Int} {m : Int} (h1 : m ∈ xs) (h2 : ∀ y ∈ xs, y ≤ m) : m = maxL xs := by
  obtain ⟨h3, h4⟩ := maxL_spec (xs := xs) (fun e => by rw [e] at h1; simp at h1)
  have := h2 _ h3
  have := h4 _ h1
  omega
/-- a lot's number dealt -/
def lotDealt (n : Int) (s : LS) (h : Nat) : Option Int × LS := match s.kept[h]? with
  | some (some (lo, hi)) => (some lo, { s with kept := s.kept.set h (some (lo + 1, hi)) })
  | _ => (some s.front, { s with kept := s.kept.set h (some (s.front + 1, s.front + n - 1)), front := s.front + n })
def dealt (p : PT) (s : LS) (h : Nat) : Option Int × LS := match p with
  | .late => (none, s)
  | .pool o => if s.pool = [] then (some s.front, { s with front := s.front + 1 }) else (some (o.pick s.pool), { s with pool := s.pool.filter (· ≠ o.pick s.pool) })
  | .lost n => lotDealt n s h
  | .again n => lotDealt n s h
def f__law_dealt : FS := fun ws μ Q QX => ∃ (p : PT) (s : LS) (h : Nat), ws = [.d p.d, .c 0, .d (.int h)] ∧ μ = stC s ∧ p.ok ∧ h < s.kept.length ∧ s.pool.length ≤ 100000 ∧ Q (.d (numD (dealt p s h).1)) (stC (dealt p s h).2)
theorem len__law_dealt : ∀ ws μ Q QX, f__law_dealt ws μ Q QX → ws.length = 3 := by
  rintro _ _ _ _ ⟨_, _, _, rfl, _⟩
  rfl
theorem ret3 {Q : W → List Cell → Prop} {s s2 : LS} {d : D} {μ : List Cell} (e : μ = stC s) (q : Q (.d d) (stC s)) : retD 3 Q (.d d) μ := by
  subst e
  apply ret_at []
  · rfl
  · exact q
theorem retC {Q : W → List Cell → Prop} {d : D} {a : List W} {b c : List D} {μ : List Cell} (e : μ = [.ml a, .pl b, .pl c]) (ha : a.all (W.inIo [0, 1, 2]) = true) (ha2 : a.map (W.inv [0, 1, 2]) = a) (q : Q (.d d) [.ml a, .pl b, .pl c]) : retD 3 Q (.d d) μ := by
  subst e
  apply ret_at []
  · show okIo [0, 1, 2] [.d d] [.ml a, .pl b, .pl c] = true
    unfold okIo
    simp only [List.all_cons, List.all_nil, List.getD_cons_zero, List.getD_cons_succ, Cell.inIo, ha]
    rfl
  · show Q (.d d) [.ml (a.map (W.inv [0, 1, 2])), .pl b, .pl c]
    rw [ha2]
    exact q
def notI (a : Int) : D → Option D
  | .int j => if j = a then none else some (.int j)
  | _ => none
theorem notI_eq (a : Int) : ∀ xs : List Int, (xs.map D.int).filterMap (notI a) = (xs.filter (· ≠ a)).map D.int
  | [] => rfl
  | x :: xs => by
    have ih := notI_eq a xs
    by_cases q : x = a
    · rw [List.map_cons, List.filterMap_cons_none (by simp [notI, q]), ih]
      simp [q]
    · rw [List.map_cons, List.filterMap_cons_some (b := .int x) (by simp [notI, q]), ih]
      simp [q]
theorem kept_at {s : LS} {h : Nat} {k : Option (Int × Int)} (e : s.kept[h]? = some k) : (s.kept.map keptD)[h]? = some (keptD k) := by rw [List.getElem?_map, e]; rfl
theorem kept_ix {s : LS} {h : Nat} (e : h < s.kept.length) : ixN (s.kept.map keptD).length (h : Int) = some h := ix_nat rfl (by simpa using e)
/-! ### calls that take the law's state along: its list at a, the kept lots at b, the open deeds at c -/
def put3 (μ : List Cell) (a b c : Nat) (s : LS) : List Cell := ((μ.set a (.ml (nowW s b c))).set b (.pl (s.kept.map keptD))).set c (.pl (s.opened.map openD))
structure At3 (μ : List Cell) (a b c : Nat) (s : LS) : Prop where
  ab : a ≠ b
  ac : a ≠ c
  bc : b ≠ c
  ha : μ[a]? = some (.ml (nowW s b c))
  hb : μ[b]? = some (.pl (s.kept.map keptD))
  hc : μ[c]? = some (.pl (s.opened.map openD))
theorem call3 {M : Mx} {Q : QE} {F : FS} {ws : List W} {ρ : List (Option W)} {μ : List Cell} {a b c : Nat} {s : LS} (h : At3 μ a b c s) (hw : ws.all (W.inIo [a, b, c]) = true)
    (hF : ∀ Q1 X1, (∀ d s', Q (.d d) ⟨ρ, put3 μ a b c s'⟩ → Q1 (.d d) (stC s')) → F (ws.map (W.inv [a, b, c])) (stC s) Q1 X1) : callD M F ws ⟨ρ, μ⟩ Q := by
  obtain ⟨ab, ac, bc, ha, hb, hc⟩ := h
  have la := (List.getElem?_eq_some_iff.mp ha).1
  have lb := (List.getElem?_eq_some_iff.mp hb).1
  have lc := (List.getElem?_eq_some_iff.mp hc).1
  have ea : μ.getD a .dead = .ml (nowW s b c) := by rw [List.getD_eq_getElem?_getD, ha]; rfl
  have eb : μ.getD b .dead = .pl (s.kept.map keptD) := by rw [List.getD_eq_getElem?_getD, hb]; rfl
  have ec : μ.getD c .dead = .pl (s.opened.map openD) := by rw [List.getD_eq_getElem?_getD, hc]; rfl
  have ia : [a, b, c].idxOf a = 0 := by simp
  have ab' : (a == b) = false := by simp [ab]
  have ac' : (a == c) = false := by simp [ac]
  have bc' : (b == c) = false := by simp [bc]
  have ib : [a, b, c].idxOf b = 1 := by simp [List.idxOf_cons, ab']
  have ic : [a, b, c].idxOf c = 2 := by simp [List.idxOf_cons, ac', bc']
  have e1 : subMu [a, b, c] μ = stC s := by
    unfold subMu
    simp only [List.map_cons, List.map_nil, ea, eb, ec]
    simp [Cell.inv, Cell.ren, nowW, stC, W.ren, ib, ic]
  refine .inl ⟨[a, b, c], ?_, ?_⟩
  · unfold okIo
    rw [hw]
    simp only [List.all_cons, List.all_nil, ea, eb, ec]
    simp [la, lb, lc, ab, ac, bc, Cell.inIo, W.inIo, nowW]
  · show F (ws.map (W.inv [a, b, c])) (subMu [a, b, c] μ) _ _
    rw [e1]
    refine hF _ _ fun d s' q => ?_
    have e2 : merge μ [a, b, c] (stC s') = put3 μ a b c s' := by
      unfold merge put3 stC
      simp [wput, Cell.ren, nowW, W.ren, ren]
    show Q (.d d) ⟨ρ, merge μ [a, b, c] (stC s')⟩
    rw [e2]
    exact q
theorem call_dealt {M : Mx} {Q : QE} {ρ : List (Option W)} {μ : List Cell} {a b c : Nat} {s : LS} {p : PT} {h : Nat} (at3 : At3 μ a b c s) (hp : p.ok) (hh : h < s.kept.length) (hpl : s.pool.length ≤ 100000)
    (q : Q (.d (numD (dealt p s h).1)) ⟨ρ, put3 μ a b c (dealt p s h).2⟩) : callD M f__law_dealt [.d p.d, .c a, .d (.int h)] ⟨ρ, μ⟩ Q :=
  call3 at3 (by simp [W.inIo]) fun Q1 X1 k => ⟨p, s, h, by simp [W.inv, W.ren], rfl, hp, hh, hpl, k _ _ q⟩
theorem t__law_dealt {f : Addr} {fd : FuncData} (F : Fun K "_law_dealt" "_law_dealt" s__law_dealt f fd) (T : Txt K mg) : FnG P w K mg base 1 f fd ["plan", "now", "firm"] (spOf K f__law_dealt) := by
  refine fn_dlG F sc__law_dealt len__law_dealt fun cdv A outer s H E hr hq => ?_
  have tk : Takes (cxOf (L2.CX P w) P w K mg base sl__law_dealt "_law_dealt" (defScope s__law_dealt) f cdv A outer s H E) (fun cls d _ H => E cls d H) := takes_of rfl rfl rfl rfl
  refine ⟨_, (pss_cons (ps_par (i := 3) (j := 4) rfl sc__law_dealt.nd rfl rfl (by decide) rfl rfl (pa_cons (pe_ix ix_seq (pv 1) pe_int (fun _ _ => rfl)) (pa_cons (pe_ix ix_seq (pv 1) pe_int (fun _ _ => rfl)) pa_nil)) (by rfl))
      (pss_cons (ps_if (pt_cmpR (op_eqT (by exact hr.units)) (pe_ix ix_seq (pv 0) pe_int (fun _ _ => rfl)) pe_str (nomark _)) (pss_one (ps_ret pe_non)) pss_nil)
      (pss_cons (ps_if (pw_and (pt_cmpR (op_eqT (by exact hr.units)) (pe_ix ix_seq (pv 0) pe_int (fun _ _ => rfl)) pe_str (nomark _)) (pw_and1 (pt_cmpR (op_neT (by exact hr.units)) (pv 4) (pe_lst pa_nil) (nomark _)))).pt (pss_cons (ps_set (i := 5) sc__law_dealt.nd rfl (by first | exact Or.inl rfl | exact Or.inr rfl) (pe_disp (pps_cons pe_str (pe_callB (call_min1D rfl) (by rfl) T.n_min (by decide +kernel) (pa_cons (pv 4) pa_nil)) (pps_cons pe_str (pe_callB (call_max1D rfl) (by rfl) T.n_max (by decide +kernel) (pa_cons (pv 4) pa_nil)) (pps_cons pe_str (pe_ix ix_seq (pv 4) pe_int (fun _ _ => rfl)) (pps_cons pe_str (pe_ix ix_seq (pv 4) (pe_un un_neg pe_int) (fun _ _ => rfl)) pps_nil)))) rfl rfl (fun z => nomatch z) (Nat.le_of_ble_eq_true rfl)))
      (pss_cons (ps_set (i := 6) sc__law_dealt.nd rfl (by first | exact Or.inl rfl | exact Or.inr rfl) (pe_dget (by exact hu_of hr) (pv 5) (pe_ix ix_seq (pv 0) pe_int (fun _ _ => rfl)) (fun _ _ => rfl)))
      (pss_cons (ps_asg (pe_lc (own := [("other", 7)]) rfl sc__law_dealt.nd (pi_any (pv 4)) (blkOk_by (own := [("other", 7)]) (N := sl__law_dealt) (sc := defScope s__law_dealt) (by decide +kernel)) (fun _ _ _ _ _ => (pg_name (i := 7) sc__law_dealt.nd rfl (by first | exact Or.inl rfl | exact Or.inr rfl))) (fun _ _ _ _ _ => (pts_one (pt_cmpR (r := rNeT K) (op_neT ?_) (pv 7) (pv 6) (nomark _)))) (fun _ _ _ _ _ => (pv 7))) (pg_sub (pv 1) pe_int set_list))
      (pss_one (ps_ret (pv 6)))))) pss_nil)
      (pss_cons (ps_if (pt_cmpR (op_eqT (by exact hr.units)) (pe_ix ix_seq (pv 0) pe_int (fun _ _ => rfl)) pe_str (nomark _)) (pss_cons (ps_asg (pe_op op_addA (pe_ix ix_seq (pv 1) pe_int (fun _ _ => rfl)) pe_int) (pg_sub (pv 1) pe_int set_list))
      (pss_one (ps_ret (pe_op op_sub (pe_ix ix_seq (pv 1) pe_int (fun _ _ => rfl)) pe_int)))) pss_nil)
      (pss_cons (ps_if (pt_cmpR op_isNon (pe_ix ix_seq (pv 3) (pv 2) (fun _ _ => rfl)) pe_non (nomark _)) (pss_cons (ps_asg (pe_tup (pa_cons (pe_ix ix_seq (pv 1) pe_int (fun _ _ => rfl)) (pa_cons (pe_op op_sub (pe_op op_addA (pe_ix ix_seq (pv 1) pe_int (fun _ _ => rfl)) (pe_ix ix_seq (pv 0) pe_int (fun _ _ => rfl))) pe_int) pa_nil))) (pg_sub (pv 3) (pv 2) set_list))
      (pss_one (ps_asg (pe_op op_addA (pe_ix ix_seq (pv 1) pe_int (fun _ _ => rfl)) (pe_ix ix_seq (pv 0) pe_int (fun _ _ => rfl))) (pg_sub (pv 1) pe_int set_list)))) pss_nil)
      (pss_cons (ps_asg (pe_ix ix_seq (pv 3) (pv 2) (fun _ _ => rfl)) (pg_tup (n := 2) rfl (pgs_cons (pg_name (i := 8) sc__law_dealt.nd rfl (by first | exact Or.inl rfl | exact Or.inr rfl)) (pgs_cons (pg_name (i := 9) sc__law_dealt.nd rfl (by first | exact Or.inl rfl | exact Or.inr rfl)) pgs_nil))))
      (pss_cons (ps_asg (pe_tup (pa_cons (pe_op op_addA (pv 8) pe_int) (pa_cons (pv 9) pa_nil))) (pg_sub (pv 3) (pv 2) set_list))
      (pss_one (ps_ret (pv 8)))))))))), ?_⟩
  · exact hr.units
  intro ws μ Qd QX h
  obtain ⟨p, s, i, rfl, rfl, hp, hh, hpl, q⟩ := h
  all_goals dsimp only [cxOf, endN, sl__law_dealt, List.map, List.append_eq, List.map_cons, List.map_nil, List.length_cons, List.length_nil, List.cons_append, List.nil_append, List.replicate_succ, List.replicate_zero, Nat.reduceAdd, Nat.reduceSub, Nat.zero_add, Nat.add_zero]
  unfold stC nowW
  cases p with
  | late =>
    unfold PT.d
    walk_at "dl"
    refine wpS_par ?_
    walk_at "dl"
    refine ⟨_, _, rfl, ?_⟩
    walk_at "dl"
    exact ret3 (s := s) (s2 := s) rfl q
  | lost n =>
    unfold PT.d
    walk_at "dl"
    refine wpS_par ?_
    walk_at "dl"
    refine ⟨_, _, rfl, ?_⟩
    walk_at "dl"
    have hk := List.getElem?_eq_getElem hh
    generalize s.kept[i] = k at hk
    refine opD_ixcC rfl (kept_ix hh) (kept_at hk) ?_
    simp only [dealt, lotDealt, hk] at q
    have hm : i < (s.kept.map keptD).length := by simpa using hh
    cases k with
    | none =>
      dsimp only [keptD]
      walk_at "dl"
      walk_at "seth"
      walk_at "dl"
      refine opD_ixcC rfl (ix_nat rfl (by simpa using hh)) (List.getElem?_set_self hm) ?_
      walk_at "dl"
      walk_at "seth"
      walk_at "dl"
      refine retC rfl rfl rfl ?_
      rw [List.set_set]
      simpa [stC, nowW, keptD, stretchD, numD, List.map_set] using q
    | some k =>
      obtain ⟨lo, hi⟩ := k
      dsimp only [keptD, stretchD]
      walk_at "dl"
      refine opD_ixcC (d := .tup [.int lo, .int hi]) rfl (kept_ix hh) (kept_at hk) ?_
      walk_at "dl"
      walk_at "seth"
      walk_at "dl"
      refine retC rfl rfl rfl ?_
      simpa [stC, nowW, keptD, stretchD, numD, List.map_set] using q
  | again n =>
    unfold PT.d
    walk_at "dl"
    refine wpS_par ?_
    walk_at "dl"
    refine ⟨_, _, rfl, ?_⟩
    walk_at "dl"
    have hk := List.getElem?_eq_getElem hh
    generalize s.kept[i] = k at hk
    refine opD_ixcC rfl (kept_ix hh) (kept_at hk) ?_
    simp only [dealt, lotDealt, hk] at q
    have hm : i < (s.kept.map keptD).length := by simpa using hh
    cases k with
    | none =>
      dsimp only [keptD]
      walk_at "dl"
      walk_at "seth"
      walk_at "dl"
      refine opD_ixcC rfl (ix_nat rfl (by simpa using hh)) (List.getElem?_set_self hm) ?_
      walk_at "dl"
      walk_at "seth"
      walk_at "dl"
      refine retC rfl rfl rfl ?_
      rw [List.set_set]
      simpa [stC, nowW, keptD, stretchD, numD, List.map_set] using q
    | some k =>
      obtain ⟨lo, hi⟩ := k
      dsimp only [keptD, stretchD]
      walk_at "dl"
      refine opD_ixcC (d := .tup [.int lo, .int hi]) rfl (kept_ix hh) (kept_at hk) ?_
      walk_at "dl"
      walk_at "seth"
      walk_at "dl"
      refine retC rfl rfl rfl ?_
      simpa [stC, nowW, keptD, stretchD, numD, List.map_set] using q
  | pool o =>
    unfold PT.d
    walk_at "dl"
    refine wpS_par ?_
    walk_at "dl"
    refine ⟨_, _, rfl, ?_⟩
    walk_at "dl"
    refine wpE_lstA ?_
    walk_at "dl"
    refine opD_neNil .t fine_ints (by omega) ?_
    walk_at "dl"
    simp only [dealt] at q
    cases hpo : s.pool with
    | nil =>
      rw [hpo, if_pos rfl] at q
      dsimp only [List.map, List.isEmpty]
      walk_at "dl"
      refine retC rfl rfl rfl ?_
      have e : s.front + 1 - 1 = s.front := by omega
      rw [e]
      simpa [stC, nowW, numD, hpo] using q
    | cons x xs =>
      rw [if_neg (by rw [hpo]; simp)] at q
      rw [← hpo]
      have ne : s.pool ≠ [] := by rw [hpo]; simp
      have e0 : (List.map D.int s.pool).isEmpty = false := by rw [hpo]; rfl
      rw [e0]
      walk_at "dl"
      have hlen : 0 < s.pool.length := List.length_pos_iff.mpr ne
      refine cbD_minL .t hlen fun m1 a1 a2 => ?_
      walk_at "dl"
      refine cbD_maxL .t hlen fun m2 a3 a4 => ?_
      walk_at "dl"
      have e1 := min_is a1 a2
      have e2 := max_is a3 a4
      subst e1 e2
      have g0 : (s.pool.map D.int)[0]? = some (.int (s.pool.headD 0)) := by rw [hpo]; rfl
      have g1 : (s.pool.map D.int)[s.pool.length - 1]? = some (.int (s.pool.getLastD 0)) := by
        rw [List.getElem?_map]
        have : s.pool[s.pool.length - 1]? = some (s.pool.getLastD 0) := by
          rw [List.getLastD_eq_getLast?, List.getLast?_eq_getElem?]
          rw [List.getElem?_eq_getElem (by omega)]
          rfl
        rw [this]
        rfl
      refine opD_ixlL (ix_nat rfl (by simpa using hlen)) g0 ?_
      walk_at "dl"
      refine opD_ixlL (j := s.pool.length - 1) (ix_neg (by simp only [List.length_map]; omega) (by simp only [List.length_map]; omega)) g1 ?_
      walk_at "dl"
      have hg : valD [(.inr "least", D.int (minL s.pool)), (.inr "greatest", D.int (maxL s.pool)), (.inr "oldest", D.int (s.pool.headD 0)), (.inr "newest", D.int (s.pool.getLastD 0))] (.inr o.s) = some (.int (o.pick s.pool)) := by
        cases o <;> rfl
      refine dgetW_s hg ?_
      walk_at "dl"
      refine wpE_lcP (tg_name (by decide)) ?_
      refine wpI_anyL ?_
      walk_at "dl"
      refine ⟨_, _, .one, by simp only [List.length_map]; omega, notI (o.pick s.pool), fun d hd => ?_, ?_⟩
      · obtain ⟨j, hj, rfl⟩ := List.mem_map.mp hd
        dsimp only [wipeRho]
        walk_at "dl"
        refine br_ndec (fun hz => ?_) (fun hz => ?_)
        · exact ⟨by simp [notI, hz], rfl⟩
        · walk_at "dl"
          exact ⟨_, rfl, by simp [notI, hz], rfl⟩
      · rw [notI_eq]
        walk_at "dl"
        refine retC rfl rfl rfl ?_
        exact q
theorem d__law_dealt (T : Txt K mg) : Dx P w K mg base 1 "_law_dealt" ["plan", "now", "firm"] f__law_dealt := dx_mk T.h__law_dealt (fun F => F.binds (ps := ["plan", "now", "firm"]) fun _ _ _ _ _ _ us hl => match us, hl with | [_, _, _], _ => rfl) fun F => t__law_dealt F T
/-! _law_closed -/
abbrev sl__law_closed : List Str := ["plan", "now", "firm", "word", "kept", "opened", "one"]
theorem sc__law_closed : FnScope sl__law_closed ["plan", "now", "firm", "word"] (defScope s__law_closed) := ⟨rfl, rfl, rfl, by decide +kernel, rfl, by decide +kernel, by decide +kernel⟩
inductive Wd where | take | ends | fail | fall
def Wd.s : Wd → Str
  | .take => "take" | .ends => "end" | .fail => "fail" | .fall => "fall"
def tidy (s : LS) (h : Nat) : LS := match s.kept[h]? with
  | some (some (lo, hi)) => if hi < lo then { s with kept := s.kept.set h none } else s
  | _ => s
def fellOff (s : LS) (h : Nat) : LS := match s.kept[h]? with
  | some (some k) => { s with lost := s.lost ++ [k], kept := s.kept.set h none }
  | _ => s
def settle (p : PT) (s : LS) (h : Nat) (w : Wd) (one : Option Int) : LS := match w, one, p with
  | .ends, one, _ => { s with sold := s.sold ++ [one] }
  | _, none, _ => s
  | _, some i, .pool _ => { s with pool := s.pool ++ [i] }
  | .fail, some i, .again _ => match s.kept[h]? with
    | some (some (_, hi)) => { s with kept := s.kept.set h (some (i, hi)) }
    | _ => s
  | _, some i, _ => { s with lost := s.lost ++ [(i, i)] }
def inDeed (s : LS) (h : Nat) : Option Int := match s.opened[h]? with
  | some (some o) => o
  | _ => none
def closed (p : PT) (s : LS) (h : Nat) (w : Wd) : Option Int × LS :=
  let r := match w, p with
    | .ends, .late => (some s.front, { s with front := s.front + 1 })
    | _, _ => (inDeed s h, s)
  let s2 := settle p r.2 h w r.1
  let s3 := { s2 with opened := s2.opened.set h none }
  let s4 := match w with
    | .fall => fellOff s3 h
    | _ => s3
  (r.1, tidy s4 h)
def f__law_closed : FS := fun ws μ Q QX => ∃ (p : PT) (s : LS) (h : Nat) (w : Wd), ws = [.d p.d, .c 0, .d (.int h), .d (.str w.s)] ∧ μ = stC s ∧ h < s.kept.length ∧ h < s.opened.length ∧ s.pool.length ≤ 100000 ∧ s.sold.length ≤ 100000 ∧ s.lost.length ≤ 100000 ∧ w ≠ .take ∧
  (∀ n i, p = .again n → w = .fail → s.opened[h]? = some (some (some i)) → ∃ k, s.kept[h]? = some (some k)) ∧ Q (.d (numD (closed p s h w).1)) (stC (closed p s h w).2)
theorem len__law_closed : ∀ ws μ Q QX, f__law_closed ws μ Q QX → ws.length = 4 := by
  rintro _ _ _ _ ⟨_, _, _, _, rfl, _⟩
  rfl
theorem call_closed {M : Mx} {Q : QE} {ρ : List (Option W)} {μ : List Cell} {a b c : Nat} {s : LS} {p : PT} {h : Nat} {w : Wd} (at3 : At3 μ a b c s) (hh : h < s.kept.length) (ho : h < s.opened.length) (hpl : s.pool.length ≤ 100000) (hsl : s.sold.length ≤ 100000) (hll : s.lost.length ≤ 100000) (hw : w ≠ .take)
    (hx : ∀ n i, p = .again n → w = .fail → s.opened[h]? = some (some (some i)) → ∃ k, s.kept[h]? = some (some k))
    (q : Q (.d (numD (closed p s h w).1)) ⟨ρ, put3 μ a b c (closed p s h w).2⟩) : callD M f__law_closed [.d p.d, .c a, .d (.int h), .d (.str w.s)] ⟨ρ, μ⟩ Q :=
  call3 at3 (by simp [W.inIo]) fun Q1 X1 k => ⟨p, s, h, w, by simp [W.inv, W.ren], rfl, hh, ho, hpl, hsl, hll, hw, hx, k _ _ q⟩
theorem t__law_closed {f : Addr} {fd : FuncData} (F : Fun K "_law_closed" "_law_closed" s__law_closed f fd) (T : Txt K mg) : FnG P w K mg base 1 f fd ["plan", "now", "firm", "word"] (spOf K f__law_closed) := by
  refine fn_dlG F sc__law_closed len__law_closed fun cdv A outer s H E hr hq => ?_
  have tk : Takes (cxOf (L2.CX P w) P w K mg base sl__law_closed "_law_closed" (defScope s__law_closed) f cdv A outer s H E) (fun cls d _ H => E cls d H) := takes_of rfl rfl rfl rfl
  refine ⟨_, (pss_cons (ps_par (i := 4) (j := 5) rfl sc__law_closed.nd rfl rfl (by decide) rfl rfl (pa_cons (pe_ix ix_seq (pv 1) pe_int (fun _ _ => rfl)) (pa_cons (pe_ix ix_seq (pv 1) pe_int (fun _ _ => rfl)) pa_nil)) (by rfl))
      (pss_cons (ps_set (i := 6) sc__law_closed.nd rfl (by first | exact Or.inl rfl | exact Or.inr rfl) (pe_ifExp (pt_cmpR op_notNon (pe_ix ix_seq (pv 5) (pv 2) (fun _ _ => rfl)) pe_non (nomark _)) (pe_ix ix_seq (pe_ix ix_seq (pv 5) (pv 2) (fun _ _ => rfl)) pe_int (fun _ _ => rfl)) pe_non))
      (pss_cons (ps_if (pw_and (pt_cmpR (op_eqT (by exact hr.units)) (pv 3) pe_str (nomark _)) (pw_and1 (pt_cmpR (op_eqT (by exact hr.units)) (pe_ix ix_seq (pv 0) pe_int (fun _ _ => rfl)) pe_str (nomark _)))).pt (pss_cons (ps_set (i := 6) sc__law_closed.nd rfl (by first | exact Or.inl rfl | exact Or.inr rfl) (pe_ix ix_seq (pv 1) pe_int (fun _ _ => rfl)))
      (pss_one (ps_asg (pe_op op_addA (pe_ix ix_seq (pv 1) pe_int (fun _ _ => rfl)) pe_int) (pg_sub (pv 1) pe_int set_list)))) pss_nil)
      (pss_cons (ps_if (pt_cmpR (op_eqT (by exact hr.units)) (pv 3) pe_str (nomark _)) (pss_one (ps_asg (pe_op op_addA (pe_ix ix_seq (pv 1) pe_int (fun _ _ => rfl)) (pe_lst (pa_cons (pv 6) pa_nil))) (pg_sub (pv 1) pe_int set_list))) (pss_one (ps_if (pw_and (pt_cmpR op_notNon (pv 6) pe_non (nomark _)) (pw_and1 (pt_cmpR (op_eqT (by exact hr.units)) (pe_ix ix_seq (pv 0) pe_int (fun _ _ => rfl)) pe_str (nomark _)))).pt (pss_one (ps_asg (pe_op op_addA (pe_ix ix_seq (pv 1) pe_int (fun _ _ => rfl)) (pe_lst (pa_cons (pv 6) pa_nil))) (pg_sub (pv 1) pe_int set_list))) (pss_one (ps_if (pw_and (pt_cmpR op_notNon (pv 6) pe_non (nomark _)) (pw_and (pt_cmpR (op_eqT (by exact hr.units)) (pe_ix ix_seq (pv 0) pe_int (fun _ _ => rfl)) pe_str (nomark _)) (pw_and1 (pt_cmpR (op_eqT (by exact hr.units)) (pv 3) pe_str (nomark _))))).pt (pss_one (ps_asg (pe_tup (pa_cons (pv 6) (pa_cons (pe_ix ix_seq (pe_ix ix_seq (pv 4) (pv 2) (fun _ _ => rfl)) pe_int (fun _ _ => rfl)) pa_nil))) (pg_sub (pv 4) (pv 2) set_list))) (pss_one (ps_if (pt_cmpR op_notNon (pv 6) pe_non (nomark _)) (pss_one (ps_asg (pe_op op_addA (pe_ix ix_seq (pv 1) pe_int (fun _ _ => rfl)) (pe_lst (pa_cons (pe_tup (pa_cons (pv 6) (pa_cons (pv 6) pa_nil))) pa_nil))) (pg_sub (pv 1) pe_int set_list))) pss_nil)))))))
      (pss_cons (ps_asg pe_non (pg_sub (pv 5) (pv 2) set_list))
      (pss_cons (ps_if (pw_and (pt_cmpR (op_eqT (by exact hr.units)) (pv 3) pe_str (nomark _)) (pw_and1 (pt_cmpR op_notNon (pe_ix ix_seq (pv 4) (pv 2) (fun _ _ => rfl)) pe_non (nomark _)))).pt (pss_cons (ps_asg (pe_op op_addA (pe_ix ix_seq (pv 1) pe_int (fun _ _ => rfl)) (pe_lst (pa_cons (pe_ix ix_seq (pv 4) (pv 2) (fun _ _ => rfl)) pa_nil))) (pg_sub (pv 1) pe_int set_list))
      (pss_one (ps_asg pe_non (pg_sub (pv 4) (pv 2) set_list)))) pss_nil)
      (pss_cons (ps_if (pw_and (pt_cmpR op_notNon (pe_ix ix_seq (pv 4) (pv 2) (fun _ _ => rfl)) pe_non (nomark _)) (pw_and1 (pt_cmpR op_gt (pe_ix ix_seq (pe_ix ix_seq (pv 4) (pv 2) (fun _ _ => rfl)) pe_int (fun _ _ => rfl)) (pe_ix ix_seq (pe_ix ix_seq (pv 4) (pv 2) (fun _ _ => rfl)) pe_int (fun _ _ => rfl)) (nomark _)))).pt (pss_one (ps_asg pe_non (pg_sub (pv 4) (pv 2) set_list))) pss_nil)
      (pss_one (ps_ret (pv 6)))))))))), ?_⟩
  intro ws μ Qd QX h
  obtain ⟨p, s, i, w, rfl, rfl, hh, ho, hpl, hsl, hll, hw, hx, q⟩ := h
  all_goals dsimp only [cxOf, endN, sl__law_closed, List.map, List.append_eq, List.map_cons, List.map_nil, List.length_cons, List.length_nil, List.cons_append, List.nil_append, List.replicate_succ, List.replicate_zero, Nat.reduceAdd, Nat.reduceSub, Nat.zero_add, Nat.add_zero]
  obtain ⟨sold, front, kept, opened, lost, pool⟩ := s
  dsimp only at hh ho hpl hsl hll hx
  have hk := List.getElem?_eq_getElem hh
  generalize kept[i] = k at hk
  have hop := List.getElem?_eq_getElem ho
  generalize opened[i] = o at hop
  have hm : i < (kept.map keptD).length := by simpa using hh
  have hmo : i < (opened.map openD).length := by simpa using ho
  have gk : (kept.map keptD)[i]? = some (keptD k) := by rw [List.getElem?_map, hk]; rfl
  have go : (opened.map openD)[i]? = some (openD o) := by rw [List.getElem?_map, hop]; rfl
  have mk0 : ∀ x, (kept.map keptD).set i (keptD x) = (kept.set i x).map keptD := fun x => by rw [List.map_set]
  have mo0 : ∀ x, (opened.map openD).set i (openD x) = (opened.set i x).map openD := fun x => by rw [List.map_set]
  have gs : ∀ x : Option (Int × Int), (kept.set i x)[i]? = some x := fun x => List.getElem?_set_self hh
  unfold stC nowW
  cases w with
  | take => exact absurd rfl hw
  | ends =>
    cases p <;> rcases o with _ | _ | a <;> rcases k with _ | ⟨lo, hi⟩
    all_goals simp only [closed, settle, tidy, fellOff, inDeed, hk, hop, gs] at q
    all_goals unfold PT.d Wd.s
    all_goals dsimp only [openD, keptD, numD, stretchD] at gk go mk0 mo0
    all_goals (walk_at "dl"; refine wpS_par ?_; walk_at "dl"; refine ⟨_, _, rfl, ?_⟩; walk_at "dh")
    all_goals try (refine br_dec (fun hz => ?_) (fun hz => ?_) <;> walk_at "dh" <;> (first | rw [if_pos hz] at q | rw [if_neg hz] at q))
    all_goals
      refine retC rfl rfl rfl ?_
      simpa [stC, nowW, keptD, openD, stretchD, numD, List.map_set] using q
  | fail =>
    cases p <;> rcases o with _ | _ | a <;> rcases k with _ | ⟨lo, hi⟩
    case again.some.some.none => exact absurd (hx _ a rfl rfl hop) (by rw [hk]; simp)
    all_goals simp only [closed, settle, tidy, fellOff, inDeed, hk, hop, gs] at q
    all_goals unfold PT.d Wd.s
    all_goals dsimp only [openD, keptD, numD, stretchD] at gk go mk0 mo0
    all_goals (walk_at "dl"; refine wpS_par ?_; walk_at "dl"; refine ⟨_, _, rfl, ?_⟩; walk_at "dh")
    all_goals try (refine br_dec (fun hz => ?_) (fun hz => ?_) <;> walk_at "dh" <;> (first | rw [if_pos hz] at q | rw [if_neg hz] at q))
    all_goals
      refine retC rfl rfl rfl ?_
      simpa [stC, nowW, keptD, openD, stretchD, numD, List.map_set] using q
  | fall =>
    cases p <;> rcases o with _ | _ | a <;> rcases k with _ | ⟨lo, hi⟩
    all_goals simp only [closed, settle, tidy, fellOff, inDeed, hk, hop, gs] at q
    all_goals unfold PT.d Wd.s
    all_goals dsimp only [openD, keptD, numD, stretchD] at gk go mk0 mo0
    all_goals (walk_at "dl"; refine wpS_par ?_; walk_at "dl"; refine ⟨_, _, rfl, ?_⟩; walk_at "dh")
    all_goals try (refine br_dec (fun hz => ?_) (fun hz => ?_) <;> walk_at "dh" <;> (first | rw [if_pos hz] at q | rw [if_neg hz] at q))
    all_goals
      refine retC rfl rfl rfl ?_
      simpa [stC, nowW, keptD, openD, stretchD, numD, List.map_set] using q
theorem d__law_closed (T : Txt K mg) : Dx P w K mg base 1 "_law_closed" ["plan", "now", "firm", "word"] f__law_closed := dx_mk T.h__law_closed (fun F => F.binds (ps := ["plan", "now", "firm", "word"]) fun _ _ _ _ _ _ us hl => match us, hl with | [_, _, _, _], _ => rfl) fun F => t__law_closed F T
/-! _law_played -/
abbrev sl__law_played : List Str := ["plan", "firms", "acts", "now", "told", "word", "firm", "opened"]
theorem sc__law_played : FnScope sl__law_played ["plan", "firms", "acts"] (defScope s__law_played) := ⟨rfl, rfl, rfl, by decide +kernel, rfl, by decide +kernel, by decide +kernel⟩
/-- events: a word and a house -/
def evD (a : Wd × Nat) : D := .tup [.str a.1.s, .int (a.2 : Nat)]
def nowD (s : LS) : D := .lst [.lst (s.sold.map numD), .int s.front, .lst (s.kept.map keptD), .lst (s.opened.map openD), .lst (s.lost.map stretchD), .lst (s.pool.map D.int)]
def stepL (p : PT) (s : LS) (a : Wd × Nat) : Option Int × LS := match a.1 with
  | .take => ((dealt p s a.2).1, { (dealt p s a.2).2 with opened := (dealt p s a.2).2.opened.set a.2 (some (dealt p s a.2).1) })
  | _ => closed p s a.2 a.1
def playL (p : PT) (s : LS) (acts : List (Wd × Nat)) : List (Option Int) × LS := acts.foldl (fun r a => (r.1 ++ [(stepL p r.2 a).1], (stepL p r.2 a).2)) ([], s)
theorem playL_snoc (p : PT) (s : LS) (acts : List (Wd × Nat)) (a : Wd × Nat) : playL p s (acts ++ [a]) = ((playL p s acts).1 ++ [(stepL p (playL p s acts).2 a).1], (stepL p (playL p s acts).2 a).2) := by
  unfold playL
  rw [List.foldl_append]
  rfl
/-- what holds behind i events -/
structure GoodL (p : PT) (n i : Nat) (s : LS) : Prop where
  k : s.kept.length = n
  o : s.opened.length = n
  so : s.sold.length ≤ i
  po : s.pool.length ≤ i
  lo : s.lost.length ≤ 2 * i
  g : ∀ (h : Nat) (m a : Int), p = .again m → s.opened[h]? = some (some (some a)) → ∃ k : Int × Int, s.kept[h]? = some (some k)
theorem good_begin (p : PT) (n : Nat) : GoodL p n 0 (LS.begin n) := ⟨by simp [LS.begin], by simp [LS.begin], Nat.le_refl _, Nat.le_refl _, Nat.le_refl _, fun h m a _ e => by
  simp [LS.begin, List.getElem?_replicate] at e⟩
theorem good_up {p : PT} {n i j : Nat} {s : LS} (h : GoodL p n i s) (hj : i ≤ j) : GoodL p n j s := ⟨h.k, h.o, Nat.le_trans h.so hj, Nat.le_trans h.po hj, Nat.le_trans h.lo (by omega), h.g⟩
theorem good_dealt {p : PT} {n i h : Nat} {s : LS} (g : GoodL p n i s) (hh : h < n) : GoodL p n (i + 1) { (dealt p s h).2 with opened := (dealt p s h).2.opened.set h (some (dealt p s h).1) } := by
  have lot : ∀ m : Int, GoodL p n (i + 1) { (lotDealt m s h).2 with opened := (lotDealt m s h).2.opened.set h (some (lotDealt m s h).1) } := fun m => by
    have hks : ∃ k, s.kept[h]? = some k := ⟨_, List.getElem?_eq_getElem (show h < s.kept.length by rw [g.k]; exact hh)⟩
    obtain ⟨k, hk⟩ := hks
    have key : ∀ (x : Int × Int), ∀ (h' : Nat) (m : Int) (a : Int), p = .again m → ∀ o, (s.opened.set h o)[h']? = some (some (some a)) → ∃ k, (s.kept.set h (some x))[h']? = some (some k) := fun x h' m a e o q => by
      by_cases z : h = h'
      · subst z
        exact ⟨x, List.getElem?_set_self (by rw [g.k]; exact hh)⟩
      · rw [List.getElem?_set_ne z] at q ⊢
        exact g.g h' m a e q
    rcases k with _ | ⟨lo, hi⟩ <;> simp only [lotDealt, hk]
    · exact ⟨by simp [g.k], by simp [g.o], by have := g.so; dsimp only; omega, by have := g.po; dsimp only; omega, by have := g.lo; dsimp only; omega, fun h' m' a e q => key _ h' m' a e _ q⟩
    · exact ⟨by simp [g.k], by simp [g.o], by have := g.so; dsimp only; omega, by have := g.po; dsimp only; omega, by have := g.lo; dsimp only; omega, fun h' m' a e q => key _ h' m' a e _ q⟩
  cases p with
  | late => exact ⟨g.k, by simp [dealt, g.o], Nat.le_trans g.so (by omega), Nat.le_trans g.po (by omega), Nat.le_trans g.lo (by omega), fun _ _ _ e => by cases e⟩
  | lost m => exact lot m
  | again m => exact lot m
  | pool o =>
    by_cases z : s.pool = []
    · have e : dealt (.pool o) s h = (some s.front, { s with front := s.front + 1 }) := by simp [dealt, z]
      rw [e]
      exact ⟨g.k, by simp [g.o], Nat.le_trans g.so (by omega), Nat.le_trans g.po (by omega), Nat.le_trans g.lo (by omega), fun _ _ _ e => by cases e⟩
    · have e : dealt (.pool o) s h = (some (o.pick s.pool), { s with pool := s.pool.filter (· ≠ o.pick s.pool) }) := by simp [dealt, z]
      rw [e]
      exact ⟨g.k, by simp [g.o], Nat.le_trans g.so (by omega), Nat.le_trans (List.length_filter_le _ _) (Nat.le_trans g.po (by omega)), Nat.le_trans g.lo (by omega), fun _ _ _ e => by cases e⟩
/-- settled: lists grow by at most one, kept lots stay there -/
theorem settle_len (p : PT) (s : LS) (h : Nat) (w : Wd) (one : Option Int) : (settle p s h w one).kept.length = s.kept.length ∧ (settle p s h w one).opened = s.opened ∧ (settle p s h w one).sold.length ≤ s.sold.length + 1 ∧ (settle p s h w one).pool.length ≤ s.pool.length + 1 ∧ (settle p s h w one).lost.length ≤ s.lost.length + 1 ∧
    ∀ (h' : Nat) (k : Option (Option (Int × Int))), h' ≠ h → s.kept[h']? = k → (settle p s h w one).kept[h']? = k := by
  unfold settle
  split
  · simp
  · simp
  · simp
  · split
    · refine ⟨by simp, rfl, by simp, by simp, by simp, fun h' k hn e => ?_⟩
      dsimp only
      rw [List.getElem?_set_ne (fun z => hn z.symm)]
      exact e
    · simp
  · simp
theorem closed_form (p : PT) (s : LS) (h : Nat) (w : Wd) : ∃ (s1 : LS) (one : Option Int), s1.kept = s.kept ∧ s1.opened = s.opened ∧ s1.sold = s.sold ∧ s1.pool = s.pool ∧ s1.lost = s.lost ∧ (closed p s h w).2 = tidy (match w with
        | .fall => fellOff { settle p s1 h w one with opened := (settle p s1 h w one).opened.set h none } h
        | _ => { settle p s1 h w one with opened := (settle p s1 h w one).opened.set h none }) h := by
  unfold closed
  cases w <;> cases p <;> first | exact ⟨s, inDeed s h, rfl, rfl, rfl, rfl, rfl, rfl⟩ | exact ⟨{ s with front := s.front + 1 }, some s.front, rfl, rfl, rfl, rfl, rfl, rfl⟩
theorem good_closed {p : PT} {n i h : Nat} {s : LS} {w : Wd} (g : GoodL p n i s) (hh : h < n) : GoodL p n (i + 1) (closed p s h w).2 := by
  -- three steps
  have tid : ∀ s : LS, s.kept.length = n → s.opened.length = n → s.opened[h]? = some none → s.sold.length ≤ i + 1 → s.pool.length ≤ i + 1 → s.lost.length ≤ 2 * (i + 1) → (∀ (h' : Nat) (m a : Int), h' ≠ h → p = .again m → s.opened[h']? = some (some (some a)) → ∃ k : Int × Int, s.kept[h']? = some (some k)) → GoodL p n (i + 1) (tidy s h) := fun s a1 a2 a3 a4 a5 a6 a7 => by
    have base : GoodL p n (i + 1) s := ⟨a1, a2, a4, a5, a6, fun h' m a e q => by
      by_cases z : h' = h
      · subst z
        rw [a3] at q
        cases q
      · exact a7 h' m a z e q⟩
    have setn : GoodL p n (i + 1) { s with kept := s.kept.set h none } := ⟨by simp [a1], a2, a4, a5, a6, fun h' m a e q => by
      by_cases z : h' = h
      · subst z
        rw [a3] at q
        cases q
      · obtain ⟨k, hk⟩ := a7 h' m a z e q
        exact ⟨k, by dsimp only; rw [List.getElem?_set_ne (fun y => z y.symm)]; exact hk⟩⟩
    unfold tidy
    split
    · split
      · exact setn
      · exact base
    · exact base
  have fin : ∀ (s1 : LS) (one : Option Int), s1.kept = s.kept → s1.opened = s.opened → s1.sold = s.sold → s1.pool = s.pool → s1.lost = s.lost →
      GoodL p n (i + 1) (tidy (match w with
        | .fall => fellOff { settle p s1 h w one with opened := (settle p s1 h w one).opened.set h none } h
        | _ => { settle p s1 h w one with opened := (settle p s1 h w one).opened.set h none }) h) := fun s1 one b1 b2 b3 b4 b5 => by
    obtain ⟨c1, c2, c3, c4, c5, c6⟩ := settle_len p s1 h w one
    rw [b1] at c1
    rw [b2] at c2
    rw [b3] at c3
    rw [b4] at c4
    rw [b5] at c5
    rw [b1] at c6
    generalize settle p s1 h w one = s2 at c1 c2 c3 c4 c5 c6
    have k2 : s2.kept.length = n := c1.trans g.k
    have o2 : (s2.opened.set h none).length = n := by simp [c2, g.o]
    have o3 : (s2.opened.set h none)[h]? = some none := List.getElem?_set_self (by rw [c2, g.o]; exact hh)
    have g7 : ∀ (h' : Nat) (m a : Int), h' ≠ h → p = .again m → (s2.opened.set h none)[h']? = some (some (some a)) → ∃ k : Int × Int, s2.kept[h']? = some (some k) := fun h' m a z e q => by
      rw [List.getElem?_set_ne (fun y => z y.symm), c2] at q
      obtain ⟨k, hk⟩ := g.g h' m a e q
      exact ⟨k, c6 h' _ z hk⟩
    have h1 := g.so
    have h2 := g.po
    have h3 := g.lo
    have plain := tid { s2 with opened := s2.opened.set h none } k2 o2 o3 (by dsimp only; omega) (by dsimp only; omega) (by dsimp only; omega) g7
    cases w with
    | fall =>
      dsimp only
      unfold fellOff
      split
      · refine tid _ (by simp [k2]) o2 o3 (by dsimp only; omega) (by dsimp only; omega) (by simp; omega) fun h' m a z e q => ?_
        obtain ⟨k, hk⟩ := g7 h' m a z e q
        exact ⟨k, by dsimp only; rw [List.getElem?_set_ne (fun y => z y.symm)]; exact hk⟩
      · exact plain
    | take => exact plain
    | ends => exact plain
    | fail => exact plain
  obtain ⟨s1, one, b1, b2, b3, b4, b5, e⟩ := closed_form p s h w
  rw [e]
  exact fin s1 one b1 b2 b3 b4 b5
theorem good_step {p : PT} {n i : Nat} {s : LS} {a : Wd × Nat} (g : GoodL p n i s) (hh : a.2 < n) : GoodL p n (i + 1) (stepL p s a).2 := by
  obtain ⟨w, h⟩ := a
  cases w with
  | take => exact good_dealt g hh
  | ends => exact good_closed g hh
  | fail => exact good_closed g hh
  | fall => exact good_closed g hh
theorem good_play {p : PT} {n : Nat} {acts : List (Wd × Nat)} (ha : ∀ a ∈ acts, a.2 < n) : ∀ i, i ≤ acts.length → GoodL p n i (playL p (LS.begin n) (acts.take i)).2 ∧ (playL p (LS.begin n) (acts.take i)).1.length = i
  | 0, _ => ⟨by simpa [playL] using good_begin p n, by simp [playL]⟩
  | i + 1, hi => by
    obtain ⟨h1, h2⟩ := good_play ha i (by omega)
    have hl : i < acts.length := by omega
    have e : playL p (LS.begin n) (acts.take (i + 1)) = ((playL p (LS.begin n) (acts.take i)).1 ++ [(stepL p (playL p (LS.begin n) (acts.take i)).2 acts[i]).1], (stepL p (playL p (LS.begin n) (acts.take i)).2 acts[i]).2) := by
      rw [List.take_succ, List.getElem?_eq_getElem hl]
      exact playL_snoc _ _ _ _
    rw [e]
    exact ⟨good_step h1 (ha _ (List.getElem_mem hl)), by simp [h2]⟩
def f__law_played : FS := fun ws μ Q QX => ∃ (p : PT) (n : Nat) (acts : List (Wd × Nat)) (x : W), ws = [.d p.d, .d (.int n), x] ∧ ((x = .d (.lst (acts.map evD)) ∧ μ = []) ∨ (x = .c 0 ∧ μ = [.pl (acts.map evD)])) ∧ p.ok ∧ n ≤ 1000 ∧ (∀ a ∈ acts, a.2 < n) ∧ acts.length ≤ 40000 ∧
  Q (.d (.tup [.lst ((playL p (LS.begin n) acts).1.map numD), nowD (playL p (LS.begin n) acts).2])) μ
theorem len__law_played : ∀ ws μ Q QX, f__law_played ws μ Q QX → ws.length = 3 := by
  rintro _ _ _ _ ⟨_, _, _, _, rfl, _⟩
  rfl
theorem call_played {M : Mx} {Q : QE} {ρ : List (Option W)} {μ : List Cell} {p : PT} {n : Nat} {acts : List (Wd × Nat)} (hp : p.ok) (hn : n ≤ 1000) (ha : ∀ a ∈ acts, a.2 < n) (hl : acts.length ≤ 40000)
    (q : Q (.d (.tup [.lst ((playL p (LS.begin n) acts).1.map numD), nowD (playL p (LS.begin n) acts).2])) ⟨ρ, μ⟩) : callD M f__law_played [.d p.d, .d (.int n), .d (.lst (acts.map evD))] ⟨ρ, μ⟩ Q :=
  callT (vs := [p.d, .int n, .lst (acts.map evD)]) rfl fun Q1 X1 k1 k2 _ => ⟨p, n, acts, _, rfl, .inl ⟨rfl, rfl⟩, hp, hn, ha, hl, k1 _ q⟩
theorem call_playedC {M : Mx} {Q : QE} {ρ : List (Option W)} {μ : List Cell} {p : PT} {n k : Nat} {acts : List (Wd × Nat)} (h : μ[k]? = some (.pl (acts.map evD))) (hp : p.ok) (hn : n ≤ 1000) (ha : ∀ a ∈ acts, a.2 < n) (hl : acts.length ≤ 40000)
    (q : Q (.d (.tup [.lst ((playL p (LS.begin n) acts).1.map numD), nowD (playL p (LS.begin n) acts).2])) ⟨ρ, μ⟩) : callD M f__law_played [.d p.d, .d (.int n), .c k] ⟨ρ, μ⟩ Q :=
  callk h (by simp [W.inIo]) fun Q1 X1 k1 k2 => ⟨p, n, acts, _, by simp [W.inv, W.ren], .inr ⟨rfl, rfl⟩, hp, hn, ha, hl, k1 _ _ (after1_self h q)⟩
def stAt (m : Nat) (s : LS) : List Cell := [.ml (nowW s (m + 1) (m + 2)), .pl (s.kept.map keptD), .pl (s.opened.map openD)]
theorem call_begun {M : Mx} {Q : QE} {ρ : List (Option W)} {μ : List Cell} {n : Nat} (hn : n ≤ 1000) (q : Q (.c μ.length) ⟨ρ, μ ++ stAt μ.length (LS.begin n)⟩) : callD M f__law_begun [.d (.int n)] ⟨ρ, μ⟩ Q :=
  call0 (ds := [.int n]) rfl ⟨n, rfl, rfl, hn, by
    show Q (.c (μ.length + 0)) ⟨ρ, μ ++ (stC (LS.begin n)).map (Cell.ren fun j => μ.length + j)⟩
    have e : (stC (LS.begin n)).map (Cell.ren fun j => μ.length + j) = stAt μ.length (LS.begin n) := by
      simp [stC, stAt, nowW, Cell.ren, W.ren]
    rw [e]
    exact q⟩
theorem t__law_played {f : Addr} {fd : FuncData} (F : Fun K "_law_played" "_law_played" s__law_played f fd) (T : Txt K mg) : FnG P w K mg base 2 f fd ["plan", "firms", "acts"] (spOf K f__law_played) := by
  obtain ⟨f__law_begun', fd__law_begun, m__law_begun, k__law_begun, b__law_begun, g__law_begun⟩ := d__law_begun (P := P) (w := w) (base := base) T
  obtain ⟨f__law_closed', fd__law_closed, m__law_closed, k__law_closed, b__law_closed, g__law_closed⟩ := d__law_closed (P := P) (w := w) (base := base) T
  obtain ⟨f__law_dealt', fd__law_dealt, m__law_dealt, k__law_dealt, b__law_dealt, g__law_dealt⟩ := d__law_dealt (P := P) (w := w) (base := base) T
  refine fn_dlG F sc__law_played len__law_played fun cdv A outer s H E hr hq => ?_
  have tk : Takes (cxOf (L2.CX P w) P w K mg base sl__law_played "_law_played" (defScope s__law_played) f cdv A outer s H E) (fun cls d _ H => E cls d H) := takes_of rfl rfl rfl rfl
  refine ⟨_, (pss_cons (ps_par (i := 3) (j := 4) rfl sc__law_played.nd rfl rfl (by decide) rfl rfl (pa_cons (pe_callQ g__law_begun (hr.mono (by decide)) hq (by rfl) m__law_begun k__law_begun b__law_begun tk (pa_cons (pv 1) pa_nil)) (pa_cons (pe_lst pa_nil) pa_nil)) (by rfl))
      (pss_cons (ps_for (passes_of rfl) rfl (pi_any (pv 2)) (pg_tup (n := 2) rfl (pgs_cons (pg_name (i := 5) sc__law_played.nd rfl (by first | exact Or.inl rfl | exact Or.inr rfl)) (pgs_cons (pg_name (i := 6) sc__law_played.nd rfl (by first | exact Or.inl rfl | exact Or.inr rfl)) pgs_nil))) (pss_one (ps_if (pt_cmpR (op_eqT (by exact hr.units)) (pv 5) pe_str (nomark _)) (pss_cons (ps_expr (pe_bm PySem.F.plainAttrs_list PySem.F.slot_list_append PySem.F.type_list_append mt_append (pv 4) (pa_cons (pe_callQ g__law_dealt (hr.mono (by decide)) hq (by rfl) m__law_dealt k__law_dealt b__law_dealt tk (pa_cons (pv 0) (pa_cons (pv 3) (pa_cons (pv 6) pa_nil)))) pa_nil)))
      (pss_cons (ps_set (i := 7) sc__law_played.nd rfl (by first | exact Or.inl rfl | exact Or.inr rfl) (pe_ix ix_seq (pv 3) pe_int (fun _ _ => rfl)))
      (pss_one (ps_asg (pe_tup (pa_cons (pe_ix ix_seq (pv 4) (pe_un un_neg pe_int) (fun _ _ => rfl)) pa_nil)) (pg_sub (pv 7) (pv 6) set_list))))) (pss_one (ps_expr (pe_bm PySem.F.plainAttrs_list PySem.F.slot_list_append PySem.F.type_list_append mt_append (pv 4) (pa_cons (pe_callQ g__law_closed (hr.mono (by decide)) hq (by rfl) m__law_closed k__law_closed b__law_closed tk (pa_cons (pv 0) (pa_cons (pv 3) (pa_cons (pv 6) (pa_cons (pv 5) pa_nil))))) pa_nil)))))))
      (pss_one (ps_ret (pe_tup (pa_cons (pv 4) (pa_cons (pv 3) pa_nil))))))), ?_⟩
  intro ws μ Qd QX h
  obtain ⟨p, n, acts, x, rfl, ⟨rfl, rfl⟩ | ⟨rfl, rfl⟩, hp, hn, ha, hl, q⟩ := h
  all_goals dsimp only [cxOf, endN, sl__law_played, List.map, List.append_eq, List.map_cons, List.map_nil, List.length_cons, List.length_nil, List.cons_append, List.nil_append, List.replicate_succ, List.replicate_zero, Nat.reduceAdd, Nat.reduceSub, Nat.zero_add, Nat.add_zero]
  · walk_at "dl"
    refine wpS_par ?_
    walk_at "dl"
    refine call_begun hn ?_
    walk_at "dl"
    refine wpE_lstB ?_
    walk_at "dl"
    refine ⟨_, _, rfl, ?_⟩
    walk_at "dl"
    refine ws_for ?_
    refine wpI_anyL ?_
    walk_at "dl"
    refine ⟨_, _, .one, fun i g' => ∃ a b c, g' = ⟨[some (.d p.d), some (.d (.int n)), some (.d (.lst (acts.map evD))), some (.c 0), some (.c 3), a, b, c], stC (playL p (LS.begin n) (acts.take i)).2 ++ [.pl ((playL p (LS.begin n) (acts.take i)).1.map numD)]⟩, ⟨none, none, none, rfl⟩, ?_, ?_⟩
    · rintro i d g2 hd ⟨a, b, c, rfl⟩
      rw [List.getElem?_map] at hd
      have hi : i < acts.length := by
        by_cases hi : i < acts.length
        · exact hi
        · rw [List.getElem?_eq_none (by omega)] at hd
          cases hd
      rw [List.getElem?_eq_getElem hi] at hd
      cases hd
      have hm := ha _ (List.getElem_mem hi)
      obtain ⟨g1, g2⟩ := good_play (p := p) ha i (by omega)
      have nxt : playL p (LS.begin n) (acts.take (i + 1)) = ((playL p (LS.begin n) (acts.take i)).1 ++ [(stepL p (playL p (LS.begin n) (acts.take i)).2 acts[i]).1], (stepL p (playL p (LS.begin n) (acts.take i)).2 acts[i]).2) := by
        rw [List.take_succ, List.getElem?_eq_getElem hi]
        exact playL_snoc _ _ _ _
      dsimp only
      rw [nxt]
      generalize acts[i] = ev at hm
      generalize playL p (LS.begin n) (acts.take i) = r at g1 g2
      obtain ⟨told, s⟩ := r
      obtain ⟨w, h⟩ := ev
      dsimp only at g1 g2 hm
      have at3 : At3 (stC s ++ [.pl (told.map numD)]) 0 1 2 s := ⟨by decide, by decide, by decide, rfl, rfl, rfl⟩
      have pu : ∀ s', put3 (stC s ++ [.pl (told.map numD)]) 0 1 2 s' = (stC s' ++ [.pl (told.map numD)]) := fun _ => rfl
      cases w with
      | take =>
        rw [show evD (.take, h) = .tup [.str "take", .int (h : Nat)] from rfl]
        walk_at "dl"
        refine call_dealt at3 hp (by rw [g1.k]; exact hm) (by have := g1.po; omega) ?_
        rw [pu]
        walk_at "dl"
        walk_at "app"
        walk_at "dl"
        have tl : (told.map numD ++ [numD (dealt p s h).1])[told.length]? = some (numD (dealt p s h).1) := by
          rw [List.getElem?_append_right (by simp)]
          simp
        refine opD_ixcC (j := told.length) rfl (ix_neg (by simp only [List.length_append, List.length_map, List.length_cons, List.length_nil]; omega) (by simp)) tl ?_
        walk_at "dl"
        have gd := good_dealt g1 hm
        have ol : h < ((dealt p s h).2.opened.map openD).length := by
          have := gd.o
          simp only [List.length_set] at this
          simpa [this] using hm
        refine setW_pl rfl (ix_nat rfl ol) ?_
        walk_at "dl"
        refine ⟨_, _, _, congrArg (G.mk _) ?_⟩
        have e1 : ∀ o : Option Int, ((dealt p s h).2.opened.map openD).set h (.tup [numD o]) = ((dealt p s h).2.opened.set h (some o)).map openD := fun o => by rw [List.map_set]; rfl
        simp only [stepL, stC, nowW, List.map_append, ← e1]
        rfl
      | ends =>
        rw [show evD (.ends, h) = .tup [.str "end", .int (h : Nat)] from rfl]
        walk_at "dl"
        refine call_closed (w := .ends) at3 (by rw [g1.k]; exact hm) (by rw [g1.o]; exact hm) (by have := g1.po; omega) (by have := g1.so; omega) (by have := g1.lo; omega) (by intro z; cases z) (fun m a e _ z => g1.g h m a e z) ?_
        rw [pu]
        walk_at "dl"
        walk_at "app"
        walk_at "dl"
        refine ⟨_, _, _, congrArg (G.mk _) ?_⟩
        simp only [stepL, List.map_append]
        rfl
      | fail =>
        rw [show evD (.fail, h) = .tup [.str "fail", .int (h : Nat)] from rfl]
        walk_at "dl"
        refine call_closed (w := .fail) at3 (by rw [g1.k]; exact hm) (by rw [g1.o]; exact hm) (by have := g1.po; omega) (by have := g1.so; omega) (by have := g1.lo; omega) (by intro z; cases z) (fun m a e _ z => g1.g h m a e z) ?_
        rw [pu]
        walk_at "dl"
        walk_at "app"
        walk_at "dl"
        refine ⟨_, _, _, congrArg (G.mk _) ?_⟩
        simp only [stepL, List.map_append]
        rfl
      | fall =>
        rw [show evD (.fall, h) = .tup [.str "fall", .int (h : Nat)] from rfl]
        walk_at "dl"
        refine call_closed (w := .fall) at3 (by rw [g1.k]; exact hm) (by rw [g1.o]; exact hm) (by have := g1.po; omega) (by have := g1.so; omega) (by have := g1.lo; omega) (by intro z; cases z) (fun m a e _ z => g1.g h m a e z) ?_
        rw [pu]
        walk_at "dl"
        walk_at "app"
        walk_at "dl"
        refine ⟨_, _, _, congrArg (G.mk _) ?_⟩
        simp only [stepL, List.map_append]
        rfl
    · rintro g2 ⟨a, b, c, rfl⟩
      rw [List.length_map, List.take_length]
      refine wpS_ret ?_
      refine wpE_tup ?_
      walk_at "dl"
      exact ⟨_, _, .pl rfl (.ml rfl (.d (.d (.pl rfl (.pl rfl (.d (.d (.nil _))))))) rfl (.nil _)), by omega, ret0 q⟩
  · walk_at "dl"
    refine wpS_par ?_
    walk_at "dl"
    refine call_begun hn ?_
    walk_at "dl"
    refine wpE_lstB ?_
    walk_at "dl"
    refine ⟨_, _, rfl, ?_⟩
    walk_at "dl"
    refine ws_forC ?_
    walk_at "dl"
    refine ⟨0, acts.map evD, rfl, fun i g' => ∃ a b c, g' = ⟨[some (.d p.d), some (.d (.int n)), some (.c 0), some (.c 1), some (.c 4), a, b, c], .pl (acts.map evD) :: (stAt 1 (playL p (LS.begin n) (acts.take i)).2 ++ [.pl ((playL p (LS.begin n) (acts.take i)).1.map numD)])⟩, ⟨none, none, none, rfl⟩, (by rintro i _ ⟨a, b, c, rfl⟩; rfl), ?_, ?_⟩
    · rintro i d g2 hd ⟨a, b, c, rfl⟩
      rw [List.getElem?_map] at hd
      have hi : i < acts.length := by
        by_cases hi : i < acts.length
        · exact hi
        · rw [List.getElem?_eq_none (by omega)] at hd
          cases hd
      rw [List.getElem?_eq_getElem hi] at hd
      cases hd
      have hm := ha _ (List.getElem_mem hi)
      obtain ⟨g1, g2⟩ := good_play (p := p) ha i (by omega)
      have nxt : playL p (LS.begin n) (acts.take (i + 1)) = ((playL p (LS.begin n) (acts.take i)).1 ++ [(stepL p (playL p (LS.begin n) (acts.take i)).2 acts[i]).1], (stepL p (playL p (LS.begin n) (acts.take i)).2 acts[i]).2) := by
        rw [List.take_succ, List.getElem?_eq_getElem hi]
        exact playL_snoc _ _ _ _
      dsimp only
      rw [nxt]
      generalize acts[i] = ev at hm
      generalize playL p (LS.begin n) (acts.take i) = r at g1 g2
      obtain ⟨told, s⟩ := r
      obtain ⟨w, h⟩ := ev
      dsimp only at g1 g2 hm
      have at3 : At3 (.pl (acts.map evD) :: (stAt 1 s ++ [.pl (told.map numD)])) 1 2 3 s := ⟨by decide, by decide, by decide, rfl, rfl, rfl⟩
      have pu : ∀ s', put3 (.pl (acts.map evD) :: (stAt 1 s ++ [.pl (told.map numD)])) 1 2 3 s' = (.pl (acts.map evD) :: (stAt 1 s' ++ [.pl (told.map numD)])) := fun _ => rfl
      cases w with
      | take =>
        rw [show evD (.take, h) = .tup [.str "take", .int (h : Nat)] from rfl]
        walk_at "dl"
        refine call_dealt at3 hp (by rw [g1.k]; exact hm) (by have := g1.po; omega) ?_
        rw [pu]
        walk_at "dl"
        walk_at "app"
        walk_at "dl"
        have tl : (told.map numD ++ [numD (dealt p s h).1])[told.length]? = some (numD (dealt p s h).1) := by
          rw [List.getElem?_append_right (by simp)]
          simp
        refine opD_ixcC (j := told.length) rfl (ix_neg (by simp only [List.length_append, List.length_map, List.length_cons, List.length_nil]; omega) (by simp)) tl ?_
        walk_at "dl"
        have gd := good_dealt g1 hm
        have ol : h < ((dealt p s h).2.opened.map openD).length := by
          have := gd.o
          simp only [List.length_set] at this
          simpa [this] using hm
        refine setW_pl rfl (ix_nat rfl ol) ?_
        walk_at "dl"
        refine ⟨_, _, _, congrArg (G.mk _) ?_⟩
        have e1 : ∀ o : Option Int, ((dealt p s h).2.opened.map openD).set h (.tup [numD o]) = ((dealt p s h).2.opened.set h (some o)).map openD := fun o => by rw [List.map_set]; rfl
        simp only [stepL, stAt, nowW, List.map_append, ← e1]
        rfl
      | ends =>
        rw [show evD (.ends, h) = .tup [.str "end", .int (h : Nat)] from rfl]
        walk_at "dl"
        refine call_closed (w := .ends) at3 (by rw [g1.k]; exact hm) (by rw [g1.o]; exact hm) (by have := g1.po; omega) (by have := g1.so; omega) (by have := g1.lo; omega) (by intro z; cases z) (fun m a e _ z => g1.g h m a e z) ?_
        rw [pu]
        walk_at "dl"
        walk_at "app"
        walk_at "dl"
        refine ⟨_, _, _, congrArg (G.mk _) ?_⟩
        simp only [stepL, List.map_append]
        rfl
      | fail =>
        rw [show evD (.fail, h) = .tup [.str "fail", .int (h : Nat)] from rfl]
        walk_at "dl"
        refine call_closed (w := .fail) at3 (by rw [g1.k]; exact hm) (by rw [g1.o]; exact hm) (by have := g1.po; omega) (by have := g1.so; omega) (by have := g1.lo; omega) (by intro z; cases z) (fun m a e _ z => g1.g h m a e z) ?_
        rw [pu]
        walk_at "dl"
        walk_at "app"
        walk_at "dl"
        refine ⟨_, _, _, congrArg (G.mk _) ?_⟩
        simp only [stepL, List.map_append]
        rfl
      | fall =>
        rw [show evD (.fall, h) = .tup [.str "fall", .int (h : Nat)] from rfl]
        walk_at "dl"
        refine call_closed (w := .fall) at3 (by rw [g1.k]; exact hm) (by rw [g1.o]; exact hm) (by have := g1.po; omega) (by have := g1.so; omega) (by have := g1.lo; omega) (by intro z; cases z) (fun m a e _ z => g1.g h m a e z) ?_
        rw [pu]
        walk_at "dl"
        walk_at "app"
        walk_at "dl"
        refine ⟨_, _, _, congrArg (G.mk _) ?_⟩
        simp only [stepL, List.map_append]
        rfl
    · rintro g2 ⟨a, b, c, rfl⟩
      rw [List.length_map, List.take_length]
      refine wpS_ret ?_
      refine wpE_tup ?_
      walk_at "dl"
      exact ⟨_, _, .pl rfl (.ml rfl (.d (.d (.pl rfl (.pl rfl (.d (.d (.nil _))))))) rfl (.nil _)), by omega, ret1 rfl q⟩
theorem d__law_played (T : Txt K mg) : Dx P w K mg base 2 "_law_played" ["plan", "firms", "acts"] f__law_played := dx_mk T.h__law_played (fun F => F.binds (ps := ["plan", "firms", "acts"]) fun _ _ _ _ _ _ us hl => match us, hl with | [_, _, _], _ => rfl) fun F => t__law_played F T
/-! _law_can -/
abbrev sl__law_can : List Str := ["firms", "acts", "opened", "act", "word", "firm"]
theorem sc__law_can : FnScope sl__law_can ["firms", "acts"] (defScope s__law_can) := ⟨rfl, rfl, rfl, by decide +kernel, rfl, by decide +kernel, by decide +kernel⟩
instance : DecidableEq Wd := fun a b => by cases a <;> cases b <;> first | exact isTrue rfl | exact isFalse (by intro h; cases h)
/-- the deeds open behind some events -/
def openB (n : Nat) (acts : List (Wd × Nat)) : List Bool := acts.foldl (fun o a => o.set a.2 (decide (a.1 = .take))) (List.replicate n false)
theorem openB_snoc (n : Nat) (acts : List (Wd × Nat)) (a : Wd × Nat) : openB n (acts ++ [a]) = (openB n acts).set a.2 (decide (a.1 = .take)) := by
  unfold openB
  rw [List.foldl_append]
  rfl
theorem openB_len (n : Nat) : ∀ acts : List (Wd × Nat), (openB n acts).length = n := by
  intro acts
  unfold openB
  suffices h : ∀ (o : List Bool), (acts.foldl (fun o a => o.set a.2 (decide (a.1 = .take))) o).length = o.length by rw [h]; simp
  induction acts with
  | nil => exact fun _ => rfl
  | cons a r ih =>
    intro o
    rw [List.foldl_cons, ih, List.length_set]
/-- events that can follow one another, without falls -/
def CanRun (n : Nat) (acts : List (Wd × Nat)) : Prop := ∀ i (hi : i < acts.length), acts[i].1 ≠ .fall ∧ acts[i].2 < n ∧ (openB n (acts.take i))[acts[i].2]? = some (!decide (acts[i].1 = .take))
def f__law_can : FS := fun ws μ Q QX => ∃ (n : Nat) (acts : List (Wd × Nat)), ws = [.d (.int n), .d (.lst (acts.map evD))] ∧ μ = [] ∧ n ≤ 1000 ∧ acts.length ≤ 800 ∧ CanRun n acts ∧ Q (.d (.bl true)) []
theorem len__law_can : ∀ ws μ Q QX, f__law_can ws μ Q QX → ws.length = 2 := by
  rintro _ _ _ _ ⟨_, _, rfl, _⟩
  rfl
theorem call_canC {M : Mx} {Q : QE} {ρ : List (Option W)} {μ : List Cell} {n k : Nat} {acts : List (Wd × Nat)} (h : μ[k]? = some (.pl (acts.map evD))) (hn : n ≤ 1000) (hl : acts.length ≤ 800) (hc : CanRun n acts) (q : Q (.d (.bl true)) ⟨ρ, μ⟩) : callD M f__law_can [.d (.int n), .c k] ⟨ρ, μ⟩ Q :=
  callR (ds := [.int n, .lst (acts.map evD)]) (va_cons .t (va_cons (.pl h) va_nil)) fun Q1 X1 k1 k2 => ⟨n, acts, rfl, rfl, hn, hl, hc, k1 _ rfl q⟩
theorem t__law_can {f : Addr} {fd : FuncData} (F : Fun K "_law_can" "_law_can" s__law_can f fd) (T : Txt K mg) : FnG P w K mg base 1 f fd ["firms", "acts"] (spOf K f__law_can) := by
  refine fn_dlG F sc__law_can len__law_can fun cdv A outer s H E hr hq => ?_
  have tk : Takes (cxOf (L2.CX P w) P w K mg base sl__law_can "_law_can" (defScope s__law_can) f cdv A outer s H E) (fun cls d _ H => E cls d H) := takes_of rfl rfl rfl rfl
  refine ⟨_, (pss_cons (ps_if (pw_or (pt_not (pt_val (pe_callB call_isi (by rfl) T.n_isinstance (by decide +kernel) (pa_cons (pv 1) (pa_cons (pe_bltn (v := .ty "list") (u := .type "list") (by rfl) T.n_list (by decide +kernel) rfl) pa_nil))))) (pw_or1 (pt_cmpR op_gt (pe_callB call_lenL (by rfl) T.n_len PySem.boot_len (pa_cons (pv 1) pa_nil)) pe_int (nomark _)))).pt (pss_one (ps_ret pe_bl)) pss_nil)
      (pss_cons (ps_set (i := 2) sc__law_can.nd rfl (by first | exact Or.inl rfl | exact Or.inr rfl) (pe_op op_mulA (pe_lst (pa_cons pe_bl pa_nil)) (pv 0)))
      (pss_cons (ps_for (passes_of rfl) rfl (pi_any (pv 1)) (pg_name (i := 3) sc__law_can.nd rfl (by first | exact Or.inl rfl | exact Or.inr rfl)) (pss_cons (ps_if (pw_or (pt_not (pt_val (pe_callB call_isi (by rfl) T.n_isinstance (by decide +kernel) (pa_cons (pv 3) (pa_cons (pe_bltn (v := .ty "tuple") (u := .type "tuple") (by rfl) T.n_tuple (by decide +kernel) rfl) pa_nil))))) (pw_or (pt_cmpR (op_neT (by exact hr.units)) (pe_callB call_lenL (by rfl) T.n_len PySem.boot_len (pa_cons (pv 3) pa_nil)) pe_int (nomark _)) (pw_or1 (pt_cmpR op_notInA (pe_ix ix_seq (pv 3) pe_int (fun _ _ => rfl)) (pe_lst (pa_cons pe_str (pa_cons pe_str (pa_cons pe_str pa_nil)))) (by rfl))))).pt (pss_one (ps_ret pe_bl)) pss_nil)
      (pss_cons (ps_asg (pv 3) (pg_tup (n := 2) rfl (pgs_cons (pg_name (i := 4) sc__law_can.nd rfl (by first | exact Or.inl rfl | exact Or.inr rfl)) (pgs_cons (pg_name (i := 5) sc__law_can.nd rfl (by first | exact Or.inl rfl | exact Or.inr rfl)) pgs_nil))))
      (pss_cons (ps_if (pw_or (pt_not (pt_val (pe_callB call_isi (by rfl) T.n_isinstance (by decide +kernel) (pa_cons (pv 5) (pa_cons (pe_bltn (v := .ty "int") (u := .type "int") (by rfl) T.n_int (by decide +kernel) rfl) pa_nil))))) (pw_or (pt_val (pe_callB call_isi (by rfl) T.n_isinstance (by decide +kernel) (pa_cons (pv 5) (pa_cons (pe_bltn (v := .ty "bool") (u := .type "bool") (by rfl) T.n_bool (by decide +kernel) rfl) pa_nil)))) (pw_or1 (pt_cmpR op_notInA (pv 5) (pe_callTy call_range1v (by rfl) T.n_range (by decide +kernel) (pa_cons (pv 0) pa_nil)) (by rfl))))).pt (pss_one (ps_ret pe_bl)) pss_nil)
      (pss_cons (ps_if (pt_cmpR (op_eqT (by exact hr.units)) (pe_ix ix_seq (pv 2) (pv 5) (fun _ _ => rfl)) (pe_cmpR (op_eqT (by exact hr.units)) (pv 4) pe_str (nomark _)) (nomark _)) (pss_one (ps_ret pe_bl)) pss_nil)
      (pss_one (ps_asg (pe_cmpR (op_eqT (by exact hr.units)) (pv 4) pe_str (nomark _)) (pg_sub (pv 2) (pv 5) set_list))))))))
      (pss_one (ps_ret pe_bl))))), ?_⟩
  intro ws μ Qd QX h
  obtain ⟨n, acts, rfl, rfl, hn, hl, hc, q⟩ := h
  all_goals dsimp only [cxOf, endN, sl__law_can, List.map, List.append_eq, List.map_cons, List.map_nil, List.length_cons, List.length_nil, List.cons_append, List.nil_append, List.replicate_succ, List.replicate_zero, Nat.reduceAdd, Nat.reduceSub, Nat.zero_add, Nat.add_zero]
  walk_at "dl"
  simp only [List.length_map]
  walk_at "dl"
  walk_at "repc"
  walk_at "dl"
  have e0 : (List.replicate n [D.bl false]).flatten = (List.replicate n false).map D.bl := by simp
  rw [e0]
  refine ws_for ?_
  refine wpI_anyL ?_
  walk_at "dl"
  refine ⟨_, _, .one, fun i g' => ∃ a b c, g' = ⟨[some (.d (.int n)), some (.d (.lst (acts.map evD))), some (.c 0), a, b, c], [.pl ((openB n (acts.take i)).map D.bl)]⟩, ⟨none, none, none, congrArg (G.mk _) (by simp [openB])⟩, ?_, ?_⟩
  · rintro i d g2 hd ⟨a, b, c, rfl⟩
    rw [List.getElem?_map] at hd
    have hi : i < acts.length := by
      by_cases hi : i < acts.length
      · exact hi
      · rw [List.getElem?_eq_none (by omega)] at hd
        cases hd
    rw [List.getElem?_eq_getElem hi] at hd
    cases hd
    obtain ⟨c1, c2, c3⟩ := hc i hi
    have nxt : openB n (acts.take (i + 1)) = (openB n (acts.take i)).set acts[i].2 (decide (acts[i].1 = .take)) := by
      rw [List.take_succ, List.getElem?_eq_getElem hi]
      exact openB_snoc _ _ _
    have ol := openB_len n (acts.take i)
    dsimp only
    rw [nxt]
    generalize acts[i] = ev at c1 c2 c3
    generalize openB n (acts.take i) = o at c3 ol
    obtain ⟨w, h⟩ := ev
    dsimp only at c1 c2 c3
    have go : (o.map D.bl)[h]? = some (.bl (!decide (w = .take))) := by rw [List.getElem?_map, c3]; rfl
    have hm : h < (o.map D.bl).length := by simpa [ol] using c2
    have e1 : ∀ x : Bool, (o.map D.bl).set h (.bl x) = (o.set h x).map D.bl := fun x => by rw [List.map_set]
    cases w with
    | fall => exact absurd rfl c1
    | take =>
      rw [show evD (.take, h) = .tup [.str "take", .int (h : Nat)] from rfl]
      walk_at "dl"
      refine wpE_lstA ?_
      walk_at "dl"
      refine opD_inAr (opD_inRng ?_)
      rw [if_pos rfl, show decide ((0 : Int) ≤ (h : Int) ∧ (h : Int) < (n : Int)) = true from decide_eq_true ⟨by omega, by omega⟩]
      walk_at "dl"
      refine opD_ixcC rfl (ix_nat rfl hm) go ?_
      walk_at "dl"
      refine setW_pl rfl (ix_nat rfl hm) ?_
      walk_at "dl"
      refine ⟨_, _, _, congrArg (G.mk _) ?_⟩
      simp only [← e1]
      rfl
    | ends =>
      rw [show evD (.ends, h) = .tup [.str "end", .int (h : Nat)] from rfl]
      walk_at "dl"
      refine wpE_lstA ?_
      walk_at "dl"
      refine opD_inAr (opD_inRng ?_)
      rw [if_pos rfl, show decide ((0 : Int) ≤ (h : Int) ∧ (h : Int) < (n : Int)) = true from decide_eq_true ⟨by omega, by omega⟩]
      walk_at "dl"
      refine opD_ixcC rfl (ix_nat rfl hm) go ?_
      walk_at "dl"
      refine setW_pl rfl (ix_nat rfl hm) ?_
      walk_at "dl"
      refine ⟨_, _, _, congrArg (G.mk _) ?_⟩
      simp only [← e1]
      rfl
    | fail =>
      rw [show evD (.fail, h) = .tup [.str "fail", .int (h : Nat)] from rfl]
      walk_at "dl"
      refine wpE_lstA ?_
      walk_at "dl"
      refine opD_inAr (opD_inRng ?_)
      rw [if_pos rfl, show decide ((0 : Int) ≤ (h : Int) ∧ (h : Int) < (n : Int)) = true from decide_eq_true ⟨by omega, by omega⟩]
      walk_at "dl"
      refine opD_ixcC rfl (ix_nat rfl hm) go ?_
      walk_at "dl"
      refine setW_pl rfl (ix_nat rfl hm) ?_
      walk_at "dl"
      refine ⟨_, _, _, congrArg (G.mk _) ?_⟩
      simp only [← e1]
      rfl
  · rintro g2 ⟨a, b, c, rfl⟩
    walk_at "dl"
    exact ret0 q
theorem d__law_can (T : Txt K mg) : Dx P w K mg base 1 "_law_can" ["firms", "acts"] f__law_can := dx_mk T.h__law_can (fun F => F.binds (ps := ["firms", "acts"]) fun _ _ _ _ _ _ us hl => match us, hl with | [_, _], _ => rfl) fun F => t__law_can F T
/-! _law_right -/
abbrev sl__law_right : List Str := ["plan", "firms", "gap", "told", "again", "along", "sold", "spot", "kept"]
theorem sc__law_right : FnScope sl__law_right ["plan", "firms", "gap"] (defScope s__law_right) := ⟨rfl, rfl, rfl, by decide +kernel, rfl, by decide +kernel, by decide +kernel⟩
/-! the weaving, its events and what the law deals along it -/
def pairsL (m : Nat) : List (Wd × Nat) := (List.replicate m [(Wd.take, 1), (Wd.ends, 1)]).flatten
def weaveL (m : Nat) : List (Wd × Nat) := [(Wd.take, 0)] ++ pairsL m ++ [(Wd.ends, 0)]
theorem weave_ev (m : Nat) : weaveD m = (weaveL m).map evD := by
  unfold weaveD weaveL pairsL
  rw [List.map_append, List.map_append, List.map_flatten, List.map_replicate]
  rfl
theorem weave_len (m : Nat) : (weaveL m).length = 2 * m + 2 := by
  unfold weaveL pairsL
  simp
  omega
def runOk : List Bool → List (Wd × Nat) → Prop
  | _, [] => True
  | o, a :: r => a.1 ≠ .fall ∧ a.2 < o.length ∧ o[a.2]? = some (!decide (a.1 = .take)) ∧ runOk (o.set a.2 (decide (a.1 = .take))) r
theorem run_can {n : Nat} : ∀ (r pre : List (Wd × Nat)), runOk (openB n pre) r → ∀ i (hi : i < r.length), r[i].1 ≠ .fall ∧ r[i].2 < n ∧ (openB n (pre ++ r.take i))[r[i].2]? = some (!decide (r[i].1 = .take))
  | [], _, _, i, hi => by simp at hi
  | a :: r, pre, h, i, hi => by
    obtain ⟨h1, h2, h3, h4⟩ := h
    cases i with
    | zero => exact ⟨h1, by rw [openB_len] at h2; exact h2, by simpa using h3⟩
    | succ i =>
      rw [← openB_snoc] at h4
      have := run_can r (pre ++ [a]) h4 i (by simpa using hi)
      simpa using this
theorem run_pairs {o : List Bool} (h2 : 2 ≤ o.length) (h0 : o[0]? = some true) (h1 : o[1]? = some false) (k : List Bool → Prop) : ∀ m (r : List (Wd × Nat)), (∀ o : List Bool, 2 ≤ o.length → o[0]? = some true → o[1]? = some false → runOk o r) → runOk o (pairsL m ++ r)
  | 0, r, hr => hr o h2 h0 h1
  | m + 1, r, hr => by
    have e : pairsL (m + 1) ++ r = (.take, 1) :: (.ends, 1) :: (pairsL m ++ r) := by simp [pairsL, List.replicate_succ]
    rw [e]
    refine ⟨by simp, by show 1 < _; omega, by simpa using h1, by simp, by simp; omega, (by show (o.set 1 (decide (Wd.take = Wd.take)))[1]? = some (!decide (Wd.ends = Wd.take)); rw [List.getElem?_set_self (by omega)]; rfl), ?_⟩
    have e2 : ((o.set 1 (decide (Wd.take = Wd.take))).set 1 (decide (Wd.ends = Wd.take))) = o.set 1 false := by simp
    show runOk ((o.set 1 (decide (Wd.take = Wd.take))).set 1 (decide (Wd.ends = Wd.take))) _
    rw [e2]
    exact run_pairs (o := o.set 1 false) (by simpa using h2) (by rw [List.getElem?_set_ne (by decide)]; exact h0) (List.getElem?_set_self (by omega)) k m r hr
theorem weave_can {n : Nat} (hn : 2 ≤ n) (m : Nat) : CanRun n (weaveL m) := by
  have h : runOk (openB n []) (weaveL m) := by
    show runOk (List.replicate n false) ((.take, 0) :: (pairsL m ++ [(.ends, 0)]))
    refine ⟨by simp, by simp; omega, by simp [List.getElem?_replicate]; omega, ?_⟩
    have e0 : (decide (((Wd.take, 0) : Wd × Nat).1 = Wd.take)) = true := by decide
    rw [e0]
    refine run_pairs (by simpa using hn) (List.getElem?_set_self (by simp; omega)) (by rw [List.getElem?_set_ne (by decide)]; simp [List.getElem?_replicate]; omega) (fun _ => True) m _ fun o h2 h0 h1 => ?_
    exact ⟨by simp, by show 0 < _; omega, by simpa using h0, trivial⟩
  intro i hi
  have := run_can (weaveL m) [] h i hi
  simpa using this
def PT.sz : PT → Int
  | .lost n => n
  | .again n => n
  | _ => 1
structure PairSt (p : PT) (n i : Nat) (s : LS) : Prop where
  sold : s.sold = (List.range i).map fun (j : Nat) => some (p.sz + (j : Int))
  k : s.kept.length = n
  o : s.opened.length = n
  o0 : s.opened[0]? = some (some (some 0))
  po : s.pool = []
  lots : match p with
    | .pool _ => s.front = 1 + (i : Int)
    | _ => (s.kept[1]? = some none ∧ s.front = p.sz + i) ∨ ∃ hi : Int, p.sz + i ≤ hi ∧ s.kept[1]? = some (some (p.sz + i, hi)) ∧ s.front = hi + 1
theorem pair_lot {p : PT} {n i : Nat} {m : Int} {s : LS} (hp : p = .lost m ∨ p = .again m) (hm : 1 ≤ m) (hn : 2 ≤ n) (h : PairSt p n i s) : PairSt p n (i + 1) (stepL p (stepL p s (.take, 1)).2 (.ends, 1)).2 := by
  obtain ⟨h1, h2, h3, h4, h5, h6⟩ := h
  have sz : p.sz = m := by rcases hp with rfl | rfl <;> rfl
  have dl : ∀ s h, dealt p s h = lotDealt m s h := fun s h => by rcases hp with rfl | rfl <;> rfl
  have h6 : (s.kept[1]? = some none ∧ s.front = m + i) ∨ ∃ hi : Int, m + i ≤ hi ∧ s.kept[1]? = some (some (m + i, hi)) ∧ s.front = hi + 1 := by
    rcases hp with rfl | rfl <;> exact h6
  have cl : ∀ s, closed p s 1 .ends = (inDeed s 1, tidy { s with sold := s.sold ++ [inDeed s 1], opened := s.opened.set 1 none } 1) := fun s => by rcases hp with rfl | rfl <;> rfl
  have k1 : 1 < s.kept.length := by omega
  have o1 : 1 < s.opened.length := by omega
  have fin : ∀ (s2 : LS), s2.sold = s.sold ++ [some (m + (i : Int))] → s2.kept.length = n → s2.opened = (s.opened.set 1 (some (some (m + (i : Int))))).set 1 none → s2.pool = [] →
      ((s2.kept[1]? = some none ∧ s2.front = m + ((i + 1 : Nat) : Int)) ∨ ∃ hi : Int, m + ((i + 1 : Nat) : Int) ≤ hi ∧ s2.kept[1]? = some (some (m + ((i + 1 : Nat) : Int), hi)) ∧ s2.front = hi + 1) → PairSt p n (i + 1) s2 := fun s2 a1 a2 a3 a4 a5 => by
    refine ⟨?_, a2, ?_, ?_, a4, ?_⟩
    · rw [a1, h1, sz, List.range_succ, List.map_append]
      rfl
    · rw [a3]; simp [h3]
    · rw [a3, List.getElem?_set_ne (by decide), List.getElem?_set_ne (by decide)]
      exact h4
    · rcases hp with rfl | rfl <;> exact a5
  show PairSt p n (i + 1) (closed p { (dealt p s 1).2 with opened := (dealt p s 1).2.opened.set 1 (some (dealt p s 1).1) } 1 .ends).2
  rw [cl, dl]
  rcases h6 with ⟨q1, q2⟩ | ⟨hi, q1, q2, q3⟩
  · have e : lotDealt m s 1 = (some s.front, { s with kept := s.kept.set 1 (some (s.front + 1, s.front + m - 1)), front := s.front + m }) := by simp [lotDealt, q1]
    rw [e]
    have id : inDeed { s with kept := s.kept.set 1 (some (s.front + 1, s.front + m - 1)), front := s.front + m, opened := s.opened.set 1 (some (some s.front)) } 1 = some s.front := by
      simp [inDeed, o1]
    dsimp only
    rw [id]
    unfold tidy
    dsimp only
    rw [List.getElem?_set_self k1]
    dsimp only
    by_cases z : s.front + m - 1 < s.front + 1
    · rw [if_pos z]
      refine fin _ (by rw [q2]) (by simp [h2]) (by rw [q2]) h5 (.inl ⟨?_, ?_⟩)
      · dsimp only
        rw [List.getElem?_set_self (by simpa using k1)]
      · dsimp only; omega
    · rw [if_neg z]
      refine fin _ (by rw [q2]) (by simp [h2]) (by rw [q2]) h5 (.inr ⟨s.front + m - 1, by omega, ?_, by dsimp only; omega⟩)
      dsimp only
      rw [List.getElem?_set_self k1, q2]
      congr 3
      omega
  · have e : lotDealt m s 1 = (some (m + (i : Int)), { s with kept := s.kept.set 1 (some (m + (i : Int) + 1, hi)) }) := by simp [lotDealt, q2]
    rw [e]
    have id : inDeed { s with kept := s.kept.set 1 (some (m + (i : Int) + 1, hi)), opened := s.opened.set 1 (some (some (m + (i : Int)))) } 1 = some (m + (i : Int)) := by
      simp [inDeed, o1]
    dsimp only
    rw [id]
    unfold tidy
    dsimp only
    rw [List.getElem?_set_self k1]
    dsimp only
    by_cases z : hi < m + (i : Int) + 1
    · rw [if_pos z]
      refine fin _ rfl (by simp [h2]) rfl h5 (.inl ⟨?_, ?_⟩)
      · dsimp only
        rw [List.getElem?_set_self (by simpa using k1)]
      · dsimp only; omega
    · rw [if_neg z]
      refine fin _ rfl (by simp [h2]) rfl h5 (.inr ⟨hi, by omega, ?_, q3⟩)
      dsimp only
      rw [List.getElem?_set_self k1]
      congr 3
      omega
theorem pair_step {p : PT} {n i : Nat} {s : LS} (hp : p.ok) (hl : p ≠ .late) (hn : 2 ≤ n) (h : PairSt p n i s) : PairSt p n (i + 1) (stepL p (stepL p s (.take, 1)).2 (.ends, 1)).2 := by
  cases p with
  | late => exact absurd rfl hl
  | lost m => exact pair_lot (.inl rfl) hp.1 hn h
  | again m => exact pair_lot (.inr rfl) hp.1 hn h
  | pool o =>
    obtain ⟨h1, h2, h3, h4, h5, h6⟩ := h
    have k1 : 1 < s.kept.length := by omega
    have o1 : 1 < s.opened.length := by omega
    have h6 : s.front = 1 + (i : Int) := h6
    show PairSt (.pool o) n (i + 1) (closed (.pool o) { (dealt (.pool o) s 1).2 with opened := (dealt (.pool o) s 1).2.opened.set 1 (some (dealt (.pool o) s 1).1) } 1 .ends).2
    have e : dealt (.pool o) s 1 = (some s.front, { s with front := s.front + 1 }) := by simp [dealt, h5]
    rw [e]
    have cl : ∀ s, closed (.pool o) s 1 .ends = (inDeed s 1, tidy { s with sold := s.sold ++ [inDeed s 1], opened := s.opened.set 1 none } 1) := fun s => rfl
    rw [cl]
    have id : inDeed { s with front := s.front + 1, opened := s.opened.set 1 (some (some s.front)) } 1 = some s.front := by
      simp [inDeed, o1]
    dsimp only
    rw [id]
    have base : ∀ s2 : LS, s2.sold = s.sold ++ [some s.front] → s2.kept.length = n → s2.opened = (s.opened.set 1 (some (some s.front))).set 1 none → s2.pool = [] → s2.front = s.front + 1 → PairSt (.pool o) n (i + 1) s2 := fun s2 a1 a2 a3 a4 a5 => by
      refine ⟨?_, a2, ?_, ?_, a4, ?_⟩
      · rw [a1, h1, List.range_succ, List.map_append, h6]
        rfl
      · rw [a3]; simp [h3]
      · rw [a3, List.getElem?_set_ne (by decide), List.getElem?_set_ne (by decide)]
        exact h4
      · show s2.front = 1 + ((i + 1 : Nat) : Int)
        rw [a5, h6]
        omega
    unfold tidy
    split
    · split
      · exact base _ rfl (by simp [h2]) rfl h5 rfl
      · exact base _ rfl h2 rfl h5 rfl
    · exact base _ rfl h2 rfl h5 rfl
theorem playL_app (p : PT) (s : LS) (a b : List (Wd × Nat)) : (playL p s (a ++ b)).2 = (playL p (playL p s a).2 b).2 := by
  unfold playL
  rw [List.foldl_append]
  generalize List.foldl _ _ a = r
  obtain ⟨l, s⟩ := r
  dsimp only
  suffices h : ∀ (b : List (Wd × Nat)) (l l' : List (Option Int)) (s : LS), (b.foldl (fun r a => (r.1 ++ [(stepL p r.2 a).1], (stepL p r.2 a).2)) (l, s)).2 = (b.foldl (fun r a => (r.1 ++ [(stepL p r.2 a).1], (stepL p r.2 a).2)) (l', s)).2 from h b l [] s
  intro b
  induction b with
  | nil => exact fun _ _ _ => rfl
  | cons a r ih => exact fun l l' s => ih _ _ _
theorem pairs_play {p : PT} {n : Nat} (hp : p.ok) (hl : p ≠ .late) (hn : 2 ≤ n) : ∀ (m i : Nat) (s : LS), PairSt p n i s → PairSt p n (i + m) (playL p s (pairsL m)).2
  | 0, i, s, h => h
  | m + 1, i, s, h => by
    have e : pairsL (m + 1) = [(.take, 1), (.ends, 1)] ++ pairsL m := by simp [pairsL, List.replicate_succ]
    rw [e, playL_app, show i + (m + 1) = i + 1 + m by omega]
    exact pairs_play hp hl hn m (i + 1) _ (pair_step hp hl hn h)
theorem weave_sold {p : PT} {n m : Nat} (hp : p.ok) (hl : p ≠ .late) (hn : 2 ≤ n) : (playL p (LS.begin n) (weaveL m)).2.sold = ((List.range m).map fun (j : Nat) => some (p.sz + (j : Int))) ++ [some 0] := by
  have h0 : PairSt p n 0 (playL p (LS.begin n) [(.take, 0)]).2 := by
    have r0 : (List.replicate n (none : Option (Int × Int)))[0]? = some none := by simp [List.getElem?_replicate]; omega
    have r1 : (List.replicate n (none : Option (Int × Int)))[1]? = some none := by simp [List.getElem?_replicate]; omega
    have ro : ∀ x : Option (Option Int), ((List.replicate n (none : Option (Option Int))).set 0 x)[0]? = some x := fun x => List.getElem?_set_self (by simp; omega)
    cases p with
    | late => exact absurd rfl hl
    | pool o =>
      have e : (playL (.pool o) (LS.begin n) [(.take, 0)]).2 = { LS.begin n with front := 1, opened := (List.replicate n none).set 0 (some (some 0)) } := by simp [playL, stepL, dealt, LS.begin]
      rw [e]
      exact ⟨rfl, by simp [LS.begin], by simp, ro _, rfl, rfl⟩
    | lost k =>
      have e : (playL (.lost k) (LS.begin n) [(.take, 0)]).2 = { LS.begin n with front := k, kept := (List.replicate n none).set 0 (some (1, k - 1)), opened := (List.replicate n none).set 0 (some (some 0)) } := by simp [playL, stepL, dealt, lotDealt, LS.begin, r0]
      rw [e]
      refine ⟨rfl, by simp, by simp, ro _, rfl, .inl ⟨?_, ?_⟩⟩
      · dsimp only
        rw [List.getElem?_set_ne (by decide)]
        exact r1
      · show k = k + ((0 : Nat) : Int)
        omega
    | again k =>
      have e : (playL (.again k) (LS.begin n) [(.take, 0)]).2 = { LS.begin n with front := k, kept := (List.replicate n none).set 0 (some (1, k - 1)), opened := (List.replicate n none).set 0 (some (some 0)) } := by simp [playL, stepL, dealt, lotDealt, LS.begin, r0]
      rw [e]
      refine ⟨rfl, by simp, by simp, ro _, rfl, .inl ⟨?_, ?_⟩⟩
      · dsimp only
        rw [List.getElem?_set_ne (by decide)]
        exact r1
      · show k = k + ((0 : Nat) : Int)
        omega
  have h1 := pairs_play hp hl hn m 0 _ h0
  unfold weaveL
  rw [playL_app, playL_app]
  generalize (playL p (playL p (LS.begin n) [(.take, 0)]).2 (pairsL m)).2 = s at h1
  obtain ⟨a1, a2, a3, a4, a5, a6⟩ := h1
  have id : inDeed s 0 = some 0 := by simp [inDeed, a4]
  have td : ∀ s h, (tidy s h).sold = s.sold := fun s h => by
    unfold tidy
    split
    · split <;> rfl
    · rfl
  show (closed p s 0 .ends).2.sold = _
  have cl : closed p s 0 .ends = (inDeed s 0, tidy { s with sold := s.sold ++ [inDeed s 0], opened := s.opened.set 0 none } 0) := by
    cases p with
    | late => exact absurd rfl hl
    | _ => rfl
  rw [cl]
  dsimp only
  rw [td, id, a1, Nat.zero_add]
/-- the numbers settled along a weaving, read off its events -/
def soldF (acts : List (Wd × Nat)) (told : List (Option Int)) (i : Nat) : Option (Option Int) := match acts[i]? with
  | some (.ends, _) => told[i]?
  | _ => none
theorem step_sold (p : PT) (s : LS) (a : Wd × Nat) : (stepL p s a).2.sold = s.sold ++ (if a.1 = .ends then [(stepL p s a).1] else []) := by
  obtain ⟨w, h⟩ := a
  have td : ∀ s h, (tidy s h).sold = s.sold := fun s h => by
    unfold tidy
    split
    · split <;> rfl
    · rfl
  have fo : ∀ s h, (fellOff s h).sold = s.sold := fun s h => by
    unfold fellOff
    split <;> rfl
  have dl : (dealt p s h).2.sold = s.sold := by
    cases p with
    | late => rfl
    | pool o => unfold dealt; dsimp only; split <;> rfl
    | lost m => unfold dealt lotDealt; dsimp only; split <;> rfl
    | again m => unfold dealt lotDealt; dsimp only; split <;> rfl
  cases w with
  | take => simp [stepL, dl]
  | ends => cases p <;> simp [stepL, closed, settle, td]
  | fail =>
    cases p <;> simp only [stepL, closed, td] <;> unfold settle <;> split <;> simp_all <;> split <;> simp
  | fall =>
    cases p <;> simp only [stepL, closed, td, fo] <;> unfold settle <;> split <;> simp_all <;> split <;> simp
theorem fm_congr {α β : Type} {f g : α → Option β} : ∀ {l : List α}, (∀ x ∈ l, f x = g x) → l.filterMap f = l.filterMap g
  | [], _ => rfl
  | x :: l, h => by
    rw [List.filterMap_cons, List.filterMap_cons, h x List.mem_cons_self, fm_congr fun y hy => h y (List.mem_cons_of_mem _ hy)]
theorem along_sold (p : PT) (s : LS) (acts : List (Wd × Nat)) : ∀ k, k ≤ acts.length → (playL p s (acts.take k)).1.length = k ∧ (playL p s (acts.take k)).2.sold = s.sold ++ (List.range k).filterMap (soldF acts (playL p s (acts.take k)).1)
  | 0, _ => by simp [playL]
  | k + 1, hk => by
    obtain ⟨h1, h2⟩ := along_sold p s acts k (by omega)
    have hl : k < acts.length := by omega
    have e : playL p s (acts.take (k + 1)) = ((playL p s (acts.take k)).1 ++ [(stepL p (playL p s (acts.take k)).2 acts[k]).1], (stepL p (playL p s (acts.take k)).2 acts[k]).2) := by
      rw [List.take_succ, List.getElem?_eq_getElem hl]
      exact playL_snoc _ _ _ _
    rw [e]
    dsimp only
    refine ⟨by simp [h1], ?_⟩
    rw [step_sold, h2, List.range_succ, List.filterMap_append, List.append_assoc]
    congr 1
    generalize (stepL p (playL p s (acts.take k)).2 acts[k]).1 = x
    generalize (playL p s (acts.take k)).1 = t at h1
    congr 1
    · have : ∀ j ∈ List.range k, soldF acts t j = soldF acts (t ++ [x]) j := fun j hj => by
        have hj : j < k := List.mem_range.mp hj
        unfold soldF
        rw [List.getElem?_append_left (by omega)]
      exact fm_congr this
    · have e2 : soldF acts (t ++ [x]) k = if acts[k].1 = .ends then some x else none := by
        unfold soldF
        rw [List.getElem?_eq_getElem hl, List.getElem?_append_right (by omega), h1]
        generalize acts[k] = a
        obtain ⟨w, h⟩ := a
        cases w <;> simp
      rw [List.filterMap_cons, e2]
      split <;> simp
/-- the comprehension of the law, as a function of the places -/
def spotF (acts : List (Wd × Nat)) (told : List (Option Int)) : D → Option D
  | .int j => (soldF acts told j.toNat).map numD
  | _ => none
theorem spot_all (acts : List (Wd × Nat)) (told : List (Option Int)) : ∀ k, (rngD 0 k).filterMap (spotF acts told) = ((List.range k).filterMap (soldF acts told)).map numD
  | k => by
    unfold rngD
    rw [List.filterMap_map, List.map_filterMap]
    congr 1
    funext i
    show (soldF acts told ((0 : Int) + (i : Int)).toNat).map numD = _
    rw [show ((0 : Int) + (i : Int)).toNat = i by omega]
theorem weave_fine (m : Nat) : Fine 2 (.lst (weaveD m)) := by
  intro d hd
  rw [weave_ev] at hd
  obtain ⟨⟨w, h⟩, _, rfl⟩ := List.mem_map.mp hd
  intro e he
  simp only [List.mem_cons, List.not_mem_nil, or_false] at he
  rcases he with rfl | rfl
  · cases w
    · exact (by decide +kernel : PyData.strOk "take" = true)
    · exact (by decide +kernel : PyData.strOk "end" = true)
    · exact (by decide +kernel : PyData.strOk "fail" = true)
    · exact (by decide +kernel : PyData.strOk "fall" = true)
  · trivial
theorem PT.plan (p : PT) (h : p.ok) : Plan p.d := by
  cases p with
  | late => exact .late
  | lost n => exact .lost n h.1 h.2
  | again n => exact .again n h.1 h.2
  | pool o => cases o <;> exact .pool _ (by constructor)
theorem call_lateN {M : Mx} {Q : QE} {ρ : List (Option W)} {μ : List Cell} {d : D} {n gap : Int} (hp : Plan d) (h1 : 1 ≤ n) (h2 : n ≤ 20) (h3 : 1 ≤ gap) (h4 : gap ≤ 300) (hq : isLate d = true ∨ n = 1) (q : Q (.d .non) ⟨ρ, μ⟩) : callD M f_late_weaving [.d d, .d (.int n), .d (.int gap)] ⟨ρ, μ⟩ Q :=
  callT (vs := [d, .int n, .int gap]) rfl fun Q1 X1 k1 k2 _ => ⟨d, n, gap, rfl, rfl, hp, h1, h2, h3, h4, fun _ => k1 _ q, fun z1 z2 => by
    rcases hq with e | e
    · rw [e] at z1; cases z1
    · exact absurd e z2⟩
theorem call_lateC {M : Mx} {Q : QE} {ρ : List (Option W)} {μ : List Cell} {d : D} {n gap : Int} (hp : Plan d) (h1 : 1 ≤ n) (h2 : n ≤ 20) (h3 : 1 ≤ gap) (h4 : gap ≤ 300) (hl : isLate d = false) (hn : n ≠ 1) (q : Q (.c μ.length) ⟨ρ, μ ++ [.pl (weaveD (othersD d gap))]⟩) : callD M f_late_weaving [.d d, .d (.int n), .d (.int gap)] ⟨ρ, μ⟩ Q :=
  callT (vs := [d, .int n, .int gap]) rfl fun Q1 X1 k1 k2 _ => ⟨d, n, gap, rfl, rfl, hp, h1, h2, h3, h4, fun z => by
    rcases z with e | e
    · rw [hl] at e; cases e
    · exact absurd e hn, fun _ _ => k2 _ q⟩
theorem fine_tup {ds : List D} (h : ∀ d ∈ ds, Fine 0 d) : Fine 1 (.tup ds) := h
theorem fine_plan {p : PT} (h : p.ok) : Fine 1 p.d := by
  have hs : ∀ x : Str, PyData.strOk x = true → Fine 0 (.str x) := fun x h => h
  have s1 : PyData.strOk "late" = true := by decide +kernel
  have s2 : PyData.strOk "lost" = true := by decide +kernel
  have s3 : PyData.strOk "again" = true := by decide +kernel
  have s4 : PyData.strOk "pool" = true := by decide +kernel
  have s5 : ∀ o : Ord4, PyData.strOk o.s = true := fun o => by cases o <;> decide +kernel
  cases p with
  | late =>
      refine fine_tup fun d hd => ?_
      simp only [List.mem_cons, List.not_mem_nil, or_false] at hd
      subst hd
      exact hs _ s1
  | lost n =>
      refine fine_tup fun d hd => ?_
      simp only [List.mem_cons, List.not_mem_nil, or_false] at hd
      rcases hd with rfl | rfl
      · exact hs _ s2
      · trivial
  | again n =>
      refine fine_tup fun d hd => ?_
      simp only [List.mem_cons, List.not_mem_nil, or_false] at hd
      rcases hd with rfl | rfl
      · exact hs _ s3
      · trivial
  | pool o =>
      refine fine_tup fun d hd => ?_
      simp only [List.mem_cons, List.not_mem_nil, or_false] at hd
      rcases hd with rfl | rfl
      · exact hs _ s4
      · exact hs _ (s5 o)
theorem fine_late : Fine 1 (.tup [.str "late"]) := fine_plan (p := .late) trivial
theorem eqv_late {p : PT} (h : p ≠ .late) : D.eqv p.d (.tup [.str "late"]) = false := by
  cases p with
  | late => exact absurd rfl h
  | _ => simp [PT.d, D.eqv, toPy, toPys, PyData.eqv, PyData.eqvAll]
theorem others_spec {p : PT} {gap : Int} (hp : p.ok) (hl : p ≠ .late) (h1 : 1 ≤ gap) (h2 : gap ≤ 300) : 1 ≤ othersD p.d gap ∧ othersD p.d gap ≤ 300 ∧ gap ≤ p.sz + (othersD p.d gap : Int) - 1 := by
  cases p with
  | late => exact absurd rfl hl
  | lost n =>
    have := hp.1
    simp only [PT.d, othersD, sizeD, PT.sz]
    omega
  | again n =>
    have := hp.1
    simp only [PT.d, othersD, sizeD, PT.sz]
    omega
  | pool o =>
    simp only [PT.d, othersD, sizeD, PT.sz]
    omega
def f__law_right : FS := fun ws μ Q QX => ∃ (p : PT) (n : Nat) (gap : Int), ws = [.d p.d, .d (.int n), .d (.int gap)] ∧ μ = [] ∧ p.ok ∧ 1 ≤ n ∧ n ≤ 20 ∧ 1 ≤ gap ∧ gap ≤ 300 ∧ Q (.d (.bl true)) []
theorem len__law_right : ∀ ws μ Q QX, f__law_right ws μ Q QX → ws.length = 3 := by
  rintro _ _ _ _ ⟨_, _, _, rfl, _⟩
  rfl
theorem t__law_right {f : Addr} {fd : FuncData} (F : Fun K "_law_right" "_law_right" s__law_right f fd) (T : Txt K mg) : FnG P w K mg base 5 f fd ["plan", "firms", "gap"] (spOf K f__law_right) := by
  obtain ⟨f__law_can', fd__law_can, m__law_can, k__law_can, b__law_can, g__law_can⟩ := d__law_can (P := P) (w := w) (base := base) T
  obtain ⟨f__law_played', fd__law_played, m__law_played, k__law_played, b__law_played, g__law_played⟩ := d__law_played (P := P) (w := w) (base := base) T
  obtain ⟨f_late_weaving', fd_late_weaving, m_late_weaving, k_late_weaving, b_late_weaving, g_late_weaving⟩ := d_late_weaving (P := P) (w := w) (base := base) T
  obtain ⟨f0_late_weaving', fd0_late_weaving, m0_late_weaving, k0_late_weaving, b0_late_weaving, g0_late_weaving⟩ := d0_late_weaving (P := P) (w := w) (base := base) T
  refine fn_dlG F sc__law_right len__law_right fun cdv A outer s H E hr hq => ?_
  have tk : Takes (cxOf (L2.CX P w) P w K mg base sl__law_right "_law_right" (defScope s__law_right) f cdv A outer s H E) (fun cls d _ H => E cls d H) := takes_of rfl rfl rfl rfl
  refine ⟨_, (pss_cons (ps_set (i := 3) sc__law_right.nd rfl (by first | exact Or.inl rfl | exact Or.inr rfl) (pe_callQ g_late_weaving (hr.mono (by decide)) hq (by rfl) m_late_weaving k_late_weaving b_late_weaving tk (pa_cons (pv 0) (pa_cons (pv 1) (pa_cons (pv 2) pa_nil)))))
      (pss_cons (ps_set (i := 4) sc__law_right.nd rfl (by first | exact Or.inl rfl | exact Or.inr rfl) (pe_callQK0 g0_late_weaving (hr.mono (by decide)) hq (by rfl) m0_late_weaving k0_late_weaving b0_late_weaving tk (pk_cons (pv 2) (pk_cons (pv 1) (pk_cons (pv 0) pk_nil)))))
      (pss_cons (ps_if (pw_or (pt_cmpR (op_eqT (by exact hr.units)) (pv 0) (pe_tup (pa_cons pe_str pa_nil)) (nomark _)) (pw_or1 (pt_cmpR (op_eqT (by exact hr.units)) (pv 1) pe_int (nomark _)))).pt (pss_one (ps_ret (pe_and (pe_cmpR op_isNon (pv 3) pe_non (nomark _)) (pe_one (pe_cmpR op_isNon (pv 4) pe_non (nomark _)))))) pss_nil)
      (pss_cons (ps_if (pw_or (pt_not (pt_val (pe_callQ g__law_can (hr.mono (by decide)) hq (by rfl) m__law_can k__law_can b__law_can tk (pa_cons (pv 1) (pa_cons (pv 3) pa_nil))))) (pw_or (pt_cmpR (op_eqT (by exact hr.units)) (pv 3) (pe_lst pa_nil) (nomark _)) (pw_or1 (pt_cmpR (op_neT (by exact hr.units)) (pe_ix ix_seq (pe_ix ix_seq (pv 3) (pe_un un_neg pe_int) (fun _ _ => rfl)) pe_int (fun _ _ => rfl)) pe_str (nomark _))))).pt (pss_one (ps_ret pe_bl)) pss_nil)
      (pss_cons (ps_set (i := 5) sc__law_right.nd rfl (by first | exact Or.inl rfl | exact Or.inr rfl) (pe_ix ix_seq (pe_callQ g__law_played (hr.mono (by decide)) hq (by rfl) m__law_played k__law_played b__law_played tk (pa_cons (pv 0) (pa_cons (pv 1) (pa_cons (pv 3) pa_nil)))) pe_int (fun _ _ => rfl)))
      (pss_cons (ps_setLc (i := 6) (own := [("spot", 7)]) rfl sc__law_right.nd rfl rfl rfl (pi_range1 (by rfl) T.n_range (pa_cons (pe_callB call_lenL (by rfl) T.n_len PySem.boot_len (pa_cons (pv 3) pa_nil)) pa_nil)) (blkOk_by (own := [("spot", 7)]) (N := sl__law_right) (sc := defScope s__law_right) (by decide +kernel)) (fun _ _ _ _ _ => (pg_name (i := 7) sc__law_right.nd rfl (by first | exact Or.inl rfl | exact Or.inr rfl))) (fun _ _ _ _ _ => (pts_one (pt_cmpR (r := rEqT K) (op_eqT ?_) (pe_ix (r := rIx K) ix_seq (pe_ix (r := rIx K) ix_seq (pv 3) (pv 7) (fun _ _ => rfl)) pe_int (fun _ _ => rfl)) pe_str (nomark _)))) (fun _ _ _ _ _ => (pe_ix (r := rIx K) ix_seq (pv 5) (pv 7) (fun _ _ => rfl))))
      (pss_cons (ps_if (pt_cmpR op_lt (pe_op op_sub (pe_callB (call_max1D rfl) (by rfl) T.n_max (by decide +kernel) (pa_cons (pv 6) pa_nil)) (pe_ix ix_seq (pv 6) (pe_un un_neg pe_int) (fun _ _ => rfl))) (pv 2) (nomark _)) (pss_one (ps_ret pe_bl)) pss_nil)
      (pss_cons (ps_set (i := 8) sc__law_right.nd rfl (by first | exact Or.inl rfl | exact Or.inr rfl) (pe_callTy call_listD (by rfl) T.n_list (by decide +kernel) (pa_cons (pv 3) pa_nil)))
      (pss_cons (ps_expr (pe_bm PySem.F.plainAttrs_list PySem.F.slot_list_append PySem.F.type_list_append mt_append (pv 3) (pa_cons (pe_tup (pa_cons pe_str (pa_cons pe_int pa_nil))) pa_nil)))
      (pss_one (ps_ret (pe_and (pe_cmpR (op_eqT (by exact hr.units)) (pv 4) (pv 8) (nomark _)) (pe_one (pe_cmpR (op_eqT (by exact hr.units)) (pe_callQ g_late_weaving (hr.mono (by decide)) hq (by rfl) m_late_weaving k_late_weaving b_late_weaving tk (pa_cons (pv 0) (pa_cons (pv 1) (pa_cons (pv 2) pa_nil)))) (pv 8) (nomark _))))))))))))))), ?_⟩
  · exact hr.units
  intro ws μ Qd QX h
  obtain ⟨p, n, gap, rfl, rfl, hp, hn1, hn2, hg1, hg2, q⟩ := h
  all_goals dsimp only [cxOf, endN, sl__law_right, List.map, List.append_eq, List.map_cons, List.map_nil, List.length_cons, List.length_nil, List.cons_append, List.nil_append, List.replicate_succ, List.replicate_zero, Nat.reduceAdd, Nat.reduceSub, Nat.zero_add, Nat.add_zero]
  have hpl : Plan p.d := p.plan hp
  have hn1' : (1 : Int) ≤ (n : Int) := by omega
  have hn2' : (n : Int) ≤ 20 := by omega
  by_cases hz : p = .late ∨ n = 1
  · have hz' : isLate p.d = true ∨ (n : Int) = 1 := by
      rcases hz with rfl | rfl
      · exact .inl rfl
      · exact .inr rfl
    walk_at "dl"
    refine call_lateN hpl hn1' hn2' hg1 hg2 hz' ?_
    walk_at "dl"
    refine call_lateN hpl hn1' hn2' hg1 hg2 hz' ?_
    walk_at "dl"
    refine opD_eqT .t .t (fine_plan hp) fine_late (by omega) (by omega) ?_
    walk_at "dl"
    refine br_any (fun _ => ?_) (fun hb => ?_)
    · walk_at "dl"
      exact ret0 q
    · have h1 : n = 1 := by
        rcases hz with rfl | h1
        · exact absurd hb (by rw [show D.eqv (PT.d .late) (.tup [.str "late"]) = true from Fine.eqv (fine_plan (p := .late) trivial)]; simp)
        · exact h1
      subst h1
      walk_at "dl"
      exact ret0 q
  · have hl : p ≠ .late := fun e => hz (.inl e)
    have h1 : n ≠ 1 := fun e => hz (.inr e)
    have h1' : (n : Int) ≠ 1 := by omega
    have hl' : isLate p.d = false := by cases p <;> first | exact absurd rfl hl | rfl
    have hm := others_spec hp hl hg1 hg2
    generalize hmm : othersD p.d gap = m at hm
    have hlen : (weaveL m).length = 2 * m + 2 := weave_len m
    have hwl : (weaveD m).length = 2 * m + 2 := by rw [weave_ev, List.length_map, hlen]
    walk_at "dl"
    refine call_lateC hpl hn1' hn2' hg1 hg2 hl' h1' ?_
    rw [hmm]
    walk_at "dl"
    refine call_lateC hpl hn1' hn2' hg1 hg2 hl' h1' ?_
    rw [hmm]
    walk_at "dl"
    refine opD_eqT .t .t (fine_plan hp) fine_late (by omega) (by omega) ?_
    rw [eqv_late hl]
    walk_at "dl"
    refine call_canC (k := 0) (acts := weaveL m) (by rw [← weave_ev]; rfl) (by omega) (by omega) (weave_can (by omega) m) ?_
    walk_at "dl"
    refine wpE_lstA ?_
    walk_at "dl"
    refine opD_eqNil (.pl rfl) (weave_fine m) (by omega) ?_
    rw [show (weaveD m).isEmpty = false by cases hw : weaveD m with | nil => rw [hw] at hwl; simp at hwl | cons => rfl]
    walk_at "dl"
    have wl : (weaveD m)[2 * m + 1]? = some (.tup [.str "end", .int 0]) := by
      unfold weaveD
      rw [List.getElem?_append_right (by simp; omega)]
      simp
      rw [show 2 * m - m * 2 = 0 by omega]
      rfl
    refine opD_ixcC (j := 2 * m + 1) rfl (ix_neg (by omega) (by omega)) wl ?_
    walk_at "dl"
    have hh : ∀ a ∈ weaveL m, a.2 < n := fun a ha => by
      obtain ⟨i, hi, rfl⟩ := List.mem_iff_getElem.mp ha
      exact (weave_can (n := n) (by omega) m i hi).2.1
    refine call_playedC (k := 0) (acts := weaveL m) (by rw [← weave_ev]; rfl) hp (by omega) hh (by omega) ?_
    walk_at "dl"
    obtain ⟨a1, a2⟩ := along_sold p (LS.begin n) (weaveL m) (weaveL m).length (Nat.le_refl _)
    rw [List.take_length] at a1 a2
    rw [weave_sold hp hl (by omega)] at a2
    generalize (playL p (LS.begin n) (weaveL m)).1 = told at a1 a2
    refine wpE_lcP (tg_name (by decide)) ?_
    refine wpI_rng1 ?_
    walk_at "dl"
    refine ⟨_, rfl, by omega, by omega, by rw [rngD_len]; omega, spotF (weaveL m) told, fun d hd => ?_, ?_⟩
    · obtain ⟨i, hi⟩ := List.getElem?_of_mem hd
      obtain ⟨hi2, rfl⟩ := rngD_get hi
      have hi3 : i < (weaveL m).length := by omega
      have hi4 : i < told.length := by omega
      have ev : (weaveD m)[i]? = some (evD (weaveL m)[i]) := by rw [weave_ev, List.getElem?_map, List.getElem?_eq_getElem hi3]; rfl
      have sf : spotF (weaveL m) told (.int ((0 : Int) + (i : Int))) = if (weaveL m)[i].1 = .ends then some (numD told[i]) else none := by
        unfold spotF soldF
        dsimp only
        rw [show ((0 : Int) + (i : Int)).toNat = i by omega, List.getElem?_eq_getElem hi3, List.getElem?_eq_getElem hi4]
        generalize (weaveL m)[i] = a
        obtain ⟨w, h⟩ := a
        cases w <;> simp
      have td : (told.map numD)[i]? = some (numD told[i]) := by rw [List.getElem?_map, List.getElem?_eq_getElem hi4]; rfl
      generalize (weaveL m)[i] = a at ev sf
      obtain ⟨w, h⟩ := a
      dsimp only [wipeRho]
      walk_at "dl"
      refine opD_ixcC (j := i) (d := .tup [.str w.s, .int h]) rfl (ix_nat (by omega) (by omega)) ev ?_
      cases w
      all_goals (dsimp only [Wd.s]; walk_at "dl")
      · exact ⟨by rw [sf]; rfl, rfl⟩
      · refine opD_ixlL (j := i) (ix_nat (by omega) (by simpa using hi4)) td ?_
        walk_at "dl"
        exact ⟨_, rfl, by rw [sf]; rfl, rfl⟩
      · exact ⟨by rw [sf]; rfl, rfl⟩
      · exact ⟨by rw [sf]; rfl, rfl⟩
    rw [hwl, show ((2 * m + 2 : Nat) : Int).toNat = (weaveL m).length by omega, spot_all]
    have ns : ((List.range (weaveL m).length).filterMap (soldF (weaveL m) told)).map numD = ((List.range m).map fun (j : Nat) => p.sz + (j : Int)).map D.int ++ [D.int 0] := by
      have a3 : (List.range (weaveL m).length).filterMap (soldF (weaveL m) told) = ((List.range m).map fun (j : Nat) => some (p.sz + (j : Int))) ++ [some 0] := by simpa [LS.begin] using a2.symm
      rw [a3, List.map_append, List.map_map, List.map_map]
      rfl
    rw [ns, show ((List.range m).map fun (j : Nat) => p.sz + (j : Int)).map D.int ++ [D.int 0] = (((List.range m).map fun (j : Nat) => p.sz + (j : Int)) ++ [0]).map D.int by simp]
    have hnl : (((List.range m).map fun (j : Nat) => p.sz + (j : Int)) ++ [0]).length = m + 1 := by simp
    have top : p.sz + ((m - 1 : Nat) : Int) ∈ (((List.range m).map fun (j : Nat) => p.sz + (j : Int)) ++ [0]) := List.mem_append_left _ (List.mem_map.mpr ⟨m - 1, List.mem_range.mpr (by omega), rfl⟩)
    have last : ((((List.range m).map fun (j : Nat) => p.sz + (j : Int)) ++ [0]).map D.int)[m]? = some (.int 0) := by
      rw [List.getElem?_map, List.getElem?_append_right (by simp)]
      simp
    generalize ((List.range m).map fun (j : Nat) => p.sz + (j : Int)) ++ [0] = ns at hnl top last
    walk_at "dl"
    refine cbD_maxL .t (by omega) fun mx b1 b2 => ?_
    have b3 := b2 _ top
    walk_at "dl"
    refine opD_ixlL (j := m) (ix_neg (by simp only [List.length_map, hnl]; omega) (by simp only [List.length_map, hnl]; omega)) last ?_
    walk_at "dl"
    refine cbD_list (.c rfl) ?_
    walk_at "dl"
    walk_at "app"
    walk_at "dl"
    refine opD_eqT (.pl rfl) .t (weave_fine m) (weave_fine m) (by omega) (by omega) ?_
    rw [Fine.eqv (weave_fine m)]
    walk_at "dl"
    refine call_lateC hpl hn1' hn2' hg1 hg2 hl' h1' ?_
    rw [hmm]
    walk_at "dl"
    refine opD_eqT (.pl rfl) .t (weave_fine m) (weave_fine m) (by omega) (by omega) ?_
    rw [Fine.eqv (weave_fine m)]
    exact ret0 q
theorem d__law_right (T : Txt K mg) : Dx P w K mg base 5 "_law_right" ["plan", "firms", "gap"] f__law_right := dx_mk T.h__law_right (fun F => F.binds (ps := ["plan", "firms", "gap"]) fun _ _ _ _ _ _ us hl => match us, hl with | [_, _, _], _ => rfl) fun F => t__law_right F T
/-! law -/
abbrev sl_law : List Str := ["script", "k", "cell", "source", "turn", "plan", "firms", "gap"]
theorem sc_law : FnScope sl_law ["script"] (defScope s_law) := ⟨rfl, rfl, rfl, by decide +kernel, rfl, by decide +kernel, by decide +kernel⟩
abbrev f_law : FS := fLaw 63
theorem len_law : ∀ ws μ Q QX, f_law ws μ Q QX → ws.length = 1 := by
  rintro _ _ _ _ ⟨_, rfl, _⟩
  rfl
theorem call_right {M : Mx} {Q : QE} {ρ : List (Option W)} {μ : List Cell} {d : D} {n : Nat} {gap : Int} (hp : Plan d) (h1 : 1 ≤ n) (h2 : n ≤ 20) (h3 : 1 ≤ gap) (h4 : gap ≤ 300) (q : Q (.d (.bl true)) ⟨ρ, μ⟩) : callD M f__law_right [.d d, .d (.int n), .d (.int gap)] ⟨ρ, μ⟩ Q := by
  obtain ⟨p, hok, rfl⟩ := hp.pt
  exact callT (vs := [p.d, .int n, .int gap]) rfl fun Q1 X1 k1 k2 _ => ⟨p, n, gap, rfl, rfl, hok, h1, h2, h3, h4, k1 _ q⟩
theorem call_source {M : Mx} {Q : QE} {ρ : List (Option W)} {μ : List Cell} {x k : Int} (h0 : 0 ≤ k) (h1 : k < 1000) (q : ∀ ds, SrcD 0 ds → Q (.c μ.length) ⟨ρ, μ ++ [.pl ds]⟩) : callD M f__law_source [.d (.int x), .d (.int k)] ⟨ρ, μ⟩ Q :=
  callT (vs := [.int x, .int k]) rfl fun Q1 X1 k1 k2 _ => ⟨x, k, rfl, rfl, h0, h1, fun ds hs => k2 _ (q ds hs)⟩
theorem cut_mem {ds : List D} {lo hi : Option Int} {d : D} (h : d ∈ cutD ds lo hi) : d ∈ ds := List.mem_of_mem_drop (List.mem_of_mem_take h)
theorem cut_len {ds : List D} {lo hi : Option Int} : (cutD ds lo hi).length ≤ ds.length := by
  unfold cutD
  simp
  omega
/-- the script's first cells -/
theorem cells_int {ns : List Int} {lo hi : Option Int} {i : Nat} {d : D} (hn : ns.length ≤ 63) (h : (enumD (cutD (ns.map D.int ++ [.int 0]) lo hi))[i]? = some d) : i < 64 ∧ ∃ x : Int, d = .tup [.int (i : Nat), .int x] := by
  obtain ⟨e, he, rfl⟩ := enumD_get h
  have hl := (List.getElem?_eq_some_iff.mp he).1
  have h2 := cut_len (ds := ns.map D.int ++ [.int 0]) (lo := lo) (hi := hi)
  have hm := cut_mem (List.mem_of_getElem? he)
  simp at h2
  refine ⟨by omega, ?_⟩
  rcases List.mem_append.mp hm with hm | hm
  · obtain ⟨x, _, rfl⟩ := List.mem_map.mp hm
    exact ⟨x, rfl⟩
  · simp at hm
    subst hm
    exact ⟨0, rfl⟩
theorem t_law {f : Addr} {fd : FuncData} (F : Fun K "law" "law" s_law f fd) (T : Txt K mg) : FnG P w K mg base 6 f fd ["script"] (spOf K f_law) := by
  obtain ⟨f__law_draw', fd__law_draw, m__law_draw, k__law_draw, b__law_draw, g__law_draw⟩ := d__law_draw (P := P) (w := w) (base := base) T
  obtain ⟨f__law_plan', fd__law_plan, m__law_plan, k__law_plan, b__law_plan, g__law_plan⟩ := d__law_plan (P := P) (w := w) (base := base) T
  obtain ⟨f__law_right', fd__law_right, m__law_right, k__law_right, b__law_right, g__law_right⟩ := d__law_right (P := P) (w := w) (base := base) T
  obtain ⟨f__law_source', fd__law_source, m__law_source, k__law_source, b__law_source, g__law_source⟩ := d__law_source (P := P) (w := w) (base := base) T
  refine fn_dlG F sc_law len_law fun cdv A outer s H E hr hq => ?_
  have tk : Takes (cxOf (L2.CX P w) P w K mg base sl_law "law" (defScope s_law) f cdv A outer s H E) (fun cls d _ H => E cls d H) := takes_of rfl rfl rfl rfl
  refine ⟨_, (pss_cons (ps_for (passes_of rfl) rfl (pi_enum (by rfl) T.n_enumerate (pa_cons (pe_slice sl_any (pe_op op_addA (pv 0) (pe_lst (pa_cons pe_int pa_nil))) po_none (po_some (pe_callB (call_max2D rfl) (by rfl) T.n_max (by decide +kernel) (pa_cons pe_int (pa_cons (pe_callB (call_min2D rfl) (by rfl) T.n_min (by decide +kernel) (pa_cons (pe_callB call_lenL (by rfl) T.n_len PySem.boot_len (pa_cons (pv 0) pa_nil)) (pa_cons pe_int pa_nil))) pa_nil))))) pa_nil)) (pg_tup (n := 2) rfl (pgs_cons (pg_name (i := 1) sc_law.nd rfl (by first | exact Or.inl rfl | exact Or.inr rfl)) (pgs_cons (pg_name (i := 2) sc_law.nd rfl (by first | exact Or.inl rfl | exact Or.inr rfl)) pgs_nil))) (pss_cons (ps_set (i := 3) sc_law.nd rfl (by first | exact Or.inl rfl | exact Or.inr rfl) (pe_callQ g__law_source (hr.mono (by decide)) hq (by rfl) m__law_source k__law_source b__law_source tk (pa_cons (pv 2) (pa_cons (pv 1) pa_nil))))
      (pss_one (ps_for (passes_of rfl) rfl (pi_range1 (by rfl) T.n_range (pa_cons pe_int pa_nil)) (pg_name (i := 4) sc_law.nd rfl (by first | exact Or.inl rfl | exact Or.inr rfl)) (pss_cons (ps_set (i := 5) sc_law.nd rfl (by first | exact Or.inl rfl | exact Or.inr rfl) (pe_callQ g__law_plan (hr.mono (by decide)) hq (by rfl) m__law_plan k__law_plan b__law_plan tk (pa_cons (pv 3) pa_nil)))
      (pss_cons (ps_set (i := 6) sc_law.nd rfl (by first | exact Or.inl rfl | exact Or.inr rfl) (pe_ix ix_seq (pe_lst (pa_cons pe_int (pa_cons pe_int (pa_cons pe_int (pa_cons (pe_op op_addA pe_int (pe_callQ g__law_draw (hr.mono (by decide)) hq (by rfl) m__law_draw k__law_draw b__law_draw tk (pa_cons (pv 3) (pa_cons pe_int pa_nil)))) (pa_cons pe_int pa_nil)))))) (pe_callQ g__law_draw (hr.mono (by decide)) hq (by rfl) m__law_draw k__law_draw b__law_draw tk (pa_cons (pv 3) (pa_cons pe_int pa_nil))) (fun _ _ => rfl)))
      (pss_cons (ps_set (i := 7) sc_law.nd rfl (by first | exact Or.inl rfl | exact Or.inr rfl) (pe_ix ix_seq (pe_lst (pa_cons (pe_op op_addA pe_int (pe_callQ g__law_draw (hr.mono (by decide)) hq (by rfl) m__law_draw k__law_draw b__law_draw tk (pa_cons (pv 3) (pa_cons pe_int pa_nil)))) (pa_cons pe_int (pa_cons pe_int (pa_cons (pe_op op_addA pe_int (pe_callQ g__law_draw (hr.mono (by decide)) hq (by rfl) m__law_draw k__law_draw b__law_draw tk (pa_cons (pv 3) (pa_cons pe_int pa_nil)))) pa_nil))))) (pe_callQ g__law_draw (hr.mono (by decide)) hq (by rfl) m__law_draw k__law_draw b__law_draw tk (pa_cons (pv 3) (pa_cons pe_int pa_nil))) (fun _ _ => rfl)))
      (pss_cons (ps_if (pw_and (pt_cmpR op_inA (pe_ix ix_seq (pv 5) pe_int (fun _ _ => rfl)) (pe_lst (pa_cons pe_str (pa_cons pe_str pa_nil))) (by rfl)) (pw_and1 (pt_cmpR (op_eqT (by exact hr.units)) (pe_callQ g__law_draw (hr.mono (by decide)) hq (by rfl) m__law_draw k__law_draw b__law_draw tk (pa_cons (pv 3) (pa_cons pe_int pa_nil))) pe_int (nomark _)))).pt (pss_one (ps_set (i := 7) sc_law.nd rfl (by first | exact Or.inl rfl | exact Or.inr rfl) (pe_callB (call_max2D rfl) (by rfl) T.n_max (by decide +kernel) (pa_cons pe_int (pa_cons (pe_callB (call_min2D rfl) (by rfl) T.n_min (by decide +kernel) (pa_cons pe_int (pa_cons (pe_op op_addA (pe_op op_sub (pe_ix ix_seq (pv 5) pe_int (fun _ _ => rfl)) pe_int) (pe_callQ g__law_draw (hr.mono (by decide)) hq (by rfl) m__law_draw k__law_draw b__law_draw tk (pa_cons (pv 3) (pa_cons pe_int pa_nil)))) pa_nil))) pa_nil))))) pss_nil)
      (pss_one (ps_if (pt_not (pt_val (pe_callQ g__law_right (hr.mono (by decide)) hq (by rfl) m__law_right k__law_right b__law_right tk (pa_cons (pv 5) (pa_cons (pv 6) (pa_cons (pv 7) pa_nil)))))) (pss_one (ps_ret pe_bl)) pss_nil))))))))))
      (pss_one (ps_ret pe_bl))), ?_⟩
  intro ws μ Qd QX h
  obtain ⟨ns, rfl, rfl, hn, q⟩ := h
  all_goals dsimp only [cxOf, endN, sl_law, List.map, List.append_eq, List.map_cons, List.map_nil, List.length_cons, List.length_nil, List.cons_append, List.nil_append, List.replicate_succ, List.replicate_zero, Nat.reduceAdd, Nat.reduceSub, Nat.zero_add, Nat.add_zero]
  walk_at "dl"
  refine ws_for ?_
  refine wpI_enumF ?_
  walk_at "dl"
  refine wpE_lstA ?_
  walk_at "dl"
  walk_at "cat"
  walk_at "dl"
  refine slD_anyL (slD_L .t ?_)
  walk_at "dl"
  refine ⟨_, _, .one, fun i g' => ∃ a b c d e f h μ, g' = ⟨[some (.d (.lst (ns.map D.int))), a, b, c, d, e, f, h], μ⟩, ⟨_, _, _, _, _, _, _, _, rfl⟩, ?_, ?_⟩
  · rintro i d g2 hd ⟨a, b, c, d1, e, f, h, μ, rfl⟩
    obtain ⟨hi, x, rfl⟩ := cells_int hn hd
    walk_at "dl"
    refine call_source (by omega) (by omega) fun ds hs => ?_
    have hk : μ.length < (μ ++ [Cell.pl ds]).length := by simp
    have hg : (μ ++ [Cell.pl ds])[μ.length]? = some (.pl ds) := by simp
    generalize μ ++ [Cell.pl ds] = ν at hk hg
    generalize μ.length = k at hk hg
    walk_at "dl"
    refine ws_for ?_
    refine wpI_rng1 ?_
    walk_at "dl"
    refine ⟨_, rfl, by decide, by decide, fun j g' => ∃ a4 a5 a6 a7 ν ds, g' = ⟨[some (.d (.lst (ns.map D.int))), some (.d (.int (i : Nat))), some (.d (.int x)), some (.c k), a4, a5, a6, a7], ν⟩ ∧ ν[k]? = some (.pl ds) ∧ SrcD (30 * j) ds, ⟨_, _, _, _, _, _, rfl, hg, hs⟩, ?_, ?_⟩
    · rintro j d g2 hd ⟨a4, a5, a6, a7, ν, ds, rfl, hg, hs⟩
      obtain ⟨hj, rfl⟩ := rngD_get hd
      have hk : k < ν.length := (List.getElem?_eq_some_iff.mp hg).1
      have hj : j < 3 := hj
      walk_at "dl"
      refine call_plan hg hs (by omega) fun p ds1 hp hs1 => ?_
      walk_at "dl"
      refine wpE_lstA ?_
      walk_at "dw"
      rename_i r1 e1 u1 u2 s1 r2 e2 u3 u4 s2
      refine opD_ixE (by omega) (by simpa using u4) fun d hd => ?_
      have hf : ∃ n : Nat, d = .int (n : Int) ∧ 1 ≤ n ∧ n ≤ 20 := by
        simp only [List.mem_cons, List.not_mem_nil, or_false] at hd
        rcases hd with rfl | rfl | rfl | rfl | rfl
        · exact ⟨1, rfl, by omega, by omega⟩
        · exact ⟨2, rfl, by omega, by omega⟩
        · exact ⟨3, rfl, by omega, by omega⟩
        · exact ⟨(1 + r1).toNat, by congr 1; omega, by omega, by omega⟩
        · exact ⟨20, rfl, by omega, by omega⟩
      obtain ⟨n, rfl, f1, f2⟩ := hf
      clear hd
      walk_at "dw"
      refine wpE_lstA ?_
      walk_at "dw"
      rename_i r3 e3 u5 u6 s3 r4 e4 u7 u8 s4 r5 e5 u9 u10 s5
      refine opD_ixE (by omega) (by simpa using u10) fun d hd => ?_
      have hgp : ∃ gp : Int, d = .int gp ∧ 1 ≤ gp ∧ gp ≤ 300 := by
        simp only [List.mem_cons, List.not_mem_nil, or_false] at hd
        rcases hd with rfl | rfl | rfl | rfl
        · exact ⟨_, rfl, by omega, by omega⟩
        · exact ⟨_, rfl, by omega, by omega⟩
        · exact ⟨_, rfl, by omega, by omega⟩
        · exact ⟨_, rfl, by omega, by omega⟩
      obtain ⟨gp, rfl, g1, g2⟩ := hgp
      clear hd
      have hk5 : k < ((((((ν.set k (Cell.pl ds1)).set k (Cell.pl e1)).set k (Cell.pl e2)).set k (Cell.pl e3)).set k (Cell.pl e4)).set k (Cell.pl e5)).length := by simpa using hk
      have hg5 : ((((((ν.set k (Cell.pl ds1)).set k (Cell.pl e1)).set k (Cell.pl e2)).set k (Cell.pl e3)).set k (Cell.pl e4)).set k (Cell.pl e5))[k]? = some (Cell.pl e5) := List.getElem?_set_self (by simpa using hk)
      generalize ((((((ν.set k (Cell.pl ds1)).set k (Cell.pl e1)).set k (Cell.pl e2)).set k (Cell.pl e3)).set k (Cell.pl e4)).set k (Cell.pl e5)) = ν' at hk5 hg5
      have hp' := hp
      cases hp with
      | late =>
        walk_at "dw"
        refine wpE_lstA ?_
        walk_at "dw"
        refine call_right hp' f1 f2 g1 g2 ?_
        walk_at "dw"
        exact ⟨_, _, _, _, _, _, rfl, hg5, s5.up (by omega)⟩
      | pool o ho =>
        walk_at "dw"
        refine wpE_lstA ?_
        walk_at "dw"
        refine call_right hp' f1 f2 g1 g2 ?_
        walk_at "dw"
        exact ⟨_, _, _, _, _, _, rfl, hg5, s5.up (by omega)⟩
      | lost m h1 h2 =>
        walk_at "dw"
        refine wpE_lstA ?_
        walk_at "dw"
        rename_i r6 e6 v1 v2 s6
        refine br_dec (fun hz => ?_) (fun hz => ?_)
        · walk_at "dw"
          rename_i r7 e7 v3 v4 s7
          refine call_right hp' f1 f2 (by omega) (by omega) ?_
          walk_at "dw"
          exact ⟨_, _, _, _, _, _, rfl, List.getElem?_set_self (by simpa using hk5), s7.up (by omega)⟩
        · walk_at "dw"
          refine call_right hp' f1 f2 g1 g2 ?_
          walk_at "dw"
          exact ⟨_, _, _, _, _, _, rfl, List.getElem?_set_self hk5, s6.up (by omega)⟩
      | again m h1 h2 =>
        walk_at "dw"
        refine wpE_lstA ?_
        walk_at "dw"
        rename_i r6 e6 v1 v2 s6
        refine br_dec (fun hz => ?_) (fun hz => ?_)
        · walk_at "dw"
          rename_i r7 e7 v3 v4 s7
          refine call_right hp' f1 f2 (by omega) (by omega) ?_
          walk_at "dw"
          exact ⟨_, _, _, _, _, _, rfl, List.getElem?_set_self (by simpa using hk5), s7.up (by omega)⟩
        · walk_at "dw"
          refine call_right hp' f1 f2 g1 g2 ?_
          walk_at "dw"
          exact ⟨_, _, _, _, _, _, rfl, List.getElem?_set_self hk5, s6.up (by omega)⟩
    · rintro g2 ⟨a4, a5, a6, a7, ν, ds, rfl, hg, hs⟩
      exact ⟨_, _, _, _, _, _, _, _, rfl⟩
  · rintro g2 ⟨a, b, c, d1, e, f, h, μ, rfl⟩
    walk_at "dl"
    exact ret0 q
theorem d_law (T : Txt K mg) : Dx P w K mg base 6 "law" ["script"] f_law := dx_mk T.h_law (fun F => F.binds (ps := ["script"]) fun _ _ _ _ _ _ us hl => match us, hl with | [_], _ => rfl) fun F => t_law F T
end
theorem all_mk {P : Program} {w : World} {K : PySem.W.Frag} {h : Heap} {mg : Str → Option Value} {fa : Addr} (X : K.In h) (G : h.Ns mainGlobals mg) (hfa : mg "law" = some (.ref fa))
    {tk_AGAIN : Tok}
    {tk_END : Tok}
    {tk_LATE : Tok}
    {tk_LOST : Tok}
    {tk_MOST_DISTANCE : Tok}
    {tk_MOST_HOUSES : Tok}
    {tk_MOST_SIZE : Tok}
    {ad_ORDERS : Addr} {od_ORDERS : Option Addr} {nn_ORDERS : Nat} {os_ORDERS : Array (Option Value)} {tk_ORDERS0 : Tok} {tk_ORDERS1 : Tok} {tk_ORDERS2 : Tok} {tk_ORDERS3 : Tok}
    {tk_POOL : Tok}
    {tk_TAKE : Tok}
    {f0 : Addr} {oc0 : Value} {od0 an0 : Option Addr} {sl0 : Array (Option Value)} {kV0 dc0 pm0 cd0 ct0 : Value}
    {f1 : Addr} {oc1 : Value} {od1 an1 : Option Addr} {sl1 : Array (Option Value)} {kV1 dc1 pm1 cd1 ct1 : Value}
    {f2 : Addr} {oc2 : Value} {od2 an2 : Option Addr} {sl2 : Array (Option Value)} {kV2 dc2 pm2 cd2 ct2 : Value}
    {f3 : Addr} {oc3 : Value} {od3 an3 : Option Addr} {sl3 : Array (Option Value)} {kV3 dc3 pm3 cd3 ct3 : Value}
    {f4 : Addr} {oc4 : Value} {od4 an4 : Option Addr} {sl4 : Array (Option Value)} {kV4 dc4 pm4 cd4 ct4 : Value}
    {f5 : Addr} {oc5 : Value} {od5 an5 : Option Addr} {sl5 : Array (Option Value)} {kV5 dc5 pm5 cd5 ct5 : Value}
    {f6 : Addr} {oc6 : Value} {od6 an6 : Option Addr} {sl6 : Array (Option Value)} {kV6 dc6 pm6 cd6 ct6 : Value}
    {f7 : Addr} {oc7 : Value} {od7 an7 : Option Addr} {sl7 : Array (Option Value)} {kV7 dc7 pm7 cd7 ct7 : Value}
    {f8 : Addr} {oc8 : Value} {od8 an8 : Option Addr} {sl8 : Array (Option Value)} {kV8 dc8 pm8 cd8 ct8 : Value}
    {f9 : Addr} {oc9 : Value} {od9 an9 : Option Addr} {sl9 : Array (Option Value)} {kV9 dc9 pm9 cd9 ct9 : Value}
    {f10 : Addr} {oc10 : Value} {od10 an10 : Option Addr} {sl10 : Array (Option Value)} {kV10 dc10 pm10 cd10 ct10 : Value}
    {f11 : Addr} {oc11 : Value} {od11 an11 : Option Addr} {sl11 : Array (Option Value)} {kV11 dc11 pm11 cd11 ct11 : Value}
    {f12 : Addr} {oc12 : Value} {od12 an12 : Option Addr} {sl12 : Array (Option Value)} {kV12 dc12 pm12 cd12 ct12 : Value}
    {f13 : Addr} {oc13 : Value} {od13 an13 : Option Addr} {sl13 : Array (Option Value)} {kV13 dc13 pm13 cd13 ct13 : Value}
    {f14 : Addr} {oc14 : Value} {od14 an14 : Option Addr} {sl14 : Array (Option Value)} {kV14 dc14 pm14 cd14 ct14 : Value}
    {f15 : Addr} {oc15 : Value} {od15 an15 : Option Addr} {sl15 : Array (Option Value)} {kV15 dc15 pm15 cd15 ct15 : Value}
    {f16 : Addr} {oc16 : Value} {od16 an16 : Option Addr} {sl16 : Array (Option Value)} {kV16 dc16 pm16 cd16 ct16 : Value}
    {f17 : Addr} {oc17 : Value} {od17 an17 : Option Addr} {sl17 : Array (Option Value)} {kV17 dc17 pm17 cd17 ct17 : Value}
    (zb_abs : PySem.W.nsIn K mainGlobals "abs" = some none)
    (zb_bool : PySem.W.nsIn K mainGlobals "bool" = some none)
    (zb_enumerate : PySem.W.nsIn K mainGlobals "enumerate" = some none)
    (zb_int : PySem.W.nsIn K mainGlobals "int" = some none)
    (zb_isinstance : PySem.W.nsIn K mainGlobals "isinstance" = some none)
    (zb_len : PySem.W.nsIn K mainGlobals "len" = some none)
    (zb_list : PySem.W.nsIn K mainGlobals "list" = some none)
    (zb_max : PySem.W.nsIn K mainGlobals "max" = some none)
    (zb_min : PySem.W.nsIn K mainGlobals "min" = some none)
    (zb_range : PySem.W.nsIn K mainGlobals "range" = some none)
    (zb_str : PySem.W.nsIn K mainGlobals "str" = some none)
    (zb_tuple : PySem.W.nsIn K mainGlobals "tuple" = some none)
    (zc_AGAIN : PySem.W.nsIn K mainGlobals "AGAIN" = some (some (.str "again" tk_AGAIN)))
    (zc_END : PySem.W.nsIn K mainGlobals "END" = some (some (.str "end" tk_END)))
    (zc_LATE : PySem.W.nsIn K mainGlobals "LATE" = some (some (.str "late" tk_LATE)))
    (zc_LOST : PySem.W.nsIn K mainGlobals "LOST" = some (some (.str "lost" tk_LOST)))
    (zc_MOST_DISTANCE : PySem.W.nsIn K mainGlobals "MOST_DISTANCE" = some (some (.int 300 tk_MOST_DISTANCE)))
    (zc_MOST_HOUSES : PySem.W.nsIn K mainGlobals "MOST_HOUSES" = some (some (.int 20 tk_MOST_HOUSES)))
    (zc_MOST_SIZE : PySem.W.nsIn K mainGlobals "MOST_SIZE" = some (some (.int 999999999999999999999999999999 tk_MOST_SIZE)))
    (zc_ORDERS : PySem.W.nsIn K mainGlobals "ORDERS" = some (some (.ref ad_ORDERS))) (zl_ORDERS : K.lookup ad_ORDERS = some ⟨.type "tuple", od_ORDERS, .seq #[.str "least" tk_ORDERS0, .str "greatest" tk_ORDERS1, .str "oldest" tk_ORDERS2, .str "newest" tk_ORDERS3] nn_ORDERS, os_ORDERS⟩)
    (zc_POOL : PySem.W.nsIn K mainGlobals "POOL" = some (some (.str "pool" tk_POOL)))
    (zc_TAKE : PySem.W.nsIn K mainGlobals "TAKE" = some (some (.str "take" tk_TAKE)))
    (a0 : PySem.W.nsIn K mainGlobals "is_integer" = some (some (.ref f0))) (l0 : K.lookup f0 = some ⟨oc0, od0, .func (PySem.W.fnOf "is_integer" "is_integer" (defArgs s_is_integer) (defBody s_is_integer) (defScope s_is_integer) .none kV0 dc0 pm0 an0 cd0 ct0), sl0⟩) (c0 : PySem.W.codeIn K cd0 "is_integer" = true) (k0 : PySem.W.keepIn K (.ref f0) = true)
    (a1 : PySem.W.nsIn K mainGlobals "is_scheme" = some (some (.ref f1))) (l1 : K.lookup f1 = some ⟨oc1, od1, .func (PySem.W.fnOf "is_scheme" "is_scheme" (defArgs s_is_scheme) (defBody s_is_scheme) (defScope s_is_scheme) .none kV1 dc1 pm1 an1 cd1 ct1), sl1⟩) (c1 : PySem.W.codeIn K cd1 "is_scheme" = true) (k1 : PySem.W.keepIn K (.ref f1) = true)
    (a2 : PySem.W.nsIn K mainGlobals "need_scheme" = some (some (.ref f2))) (l2 : K.lookup f2 = some ⟨oc2, od2, .func (PySem.W.fnOf "need_scheme" "need_scheme" (defArgs s_need_scheme) (defBody s_need_scheme) (defScope s_need_scheme) .none kV2 dc2 pm2 an2 cd2 ct2), sl2⟩) (c2 : PySem.W.codeIn K cd2 "need_scheme" = true) (k2 : PySem.W.keepIn K (.ref f2) = true)
    (a3 : PySem.W.nsIn K mainGlobals "need_houses" = some (some (.ref f3))) (l3 : K.lookup f3 = some ⟨oc3, od3, .func (PySem.W.fnOf "need_houses" "need_houses" (defArgs s_need_houses) (defBody s_need_houses) (defScope s_need_houses) .none kV3 dc3 pm3 an3 cd3 ct3), sl3⟩) (c3 : PySem.W.codeIn K cd3 "need_houses" = true) (k3 : PySem.W.keepIn K (.ref f3) = true)
    (a4 : PySem.W.nsIn K mainGlobals "need_number" = some (some (.ref f4))) (l4 : K.lookup f4 = some ⟨oc4, od4, .func (PySem.W.fnOf "need_number" "need_number" (defArgs s_need_number) (defBody s_need_number) (defScope s_need_number) .none kV4 dc4 pm4 an4 cd4 ct4), sl4⟩) (c4 : PySem.W.codeIn K cd4 "need_number" = true) (k4 : PySem.W.keepIn K (.ref f4) = true)
    (a5 : PySem.W.nsIn K mainGlobals "size_of" = some (some (.ref f5))) (l5 : K.lookup f5 = some ⟨oc5, od5, .func (PySem.W.fnOf "size_of" "size_of" (defArgs s_size_of) (defBody s_size_of) (defScope s_size_of) .none kV5 dc5 pm5 an5 cd5 ct5), sl5⟩) (c5 : PySem.W.codeIn K cd5 "size_of" = true) (k5 : PySem.W.keepIn K (.ref f5) = true)
    (a6 : PySem.W.nsIn K mainGlobals "late_weaving" = some (some (.ref f6))) (l6 : K.lookup f6 = some ⟨oc6, od6, .func (PySem.W.fnOf "late_weaving" "late_weaving" (defArgs s_late_weaving) (defBody s_late_weaving) (defScope s_late_weaving) .none kV6 dc6 pm6 an6 cd6 ct6), sl6⟩) (c6 : PySem.W.codeIn K cd6 "late_weaving" = true) (k6 : PySem.W.keepIn K (.ref f6) = true)
    (a7 : PySem.W.nsIn K mainGlobals "_law_source" = some (some (.ref f7))) (l7 : K.lookup f7 = some ⟨oc7, od7, .func (PySem.W.fnOf "_law_source" "_law_source" (defArgs s__law_source) (defBody s__law_source) (defScope s__law_source) .none kV7 dc7 pm7 an7 cd7 ct7), sl7⟩) (c7 : PySem.W.codeIn K cd7 "_law_source" = true) (k7 : PySem.W.keepIn K (.ref f7) = true)
    (a8 : PySem.W.nsIn K mainGlobals "_law_draw" = some (some (.ref f8))) (l8 : K.lookup f8 = some ⟨oc8, od8, .func (PySem.W.fnOf "_law_draw" "_law_draw" (defArgs s__law_draw) (defBody s__law_draw) (defScope s__law_draw) .none kV8 dc8 pm8 an8 cd8 ct8), sl8⟩) (c8 : PySem.W.codeIn K cd8 "_law_draw" = true) (k8 : PySem.W.keepIn K (.ref f8) = true)
    (a9 : PySem.W.nsIn K mainGlobals "_law_size" = some (some (.ref f9))) (l9 : K.lookup f9 = some ⟨oc9, od9, .func (PySem.W.fnOf "_law_size" "_law_size" (defArgs s__law_size) (defBody s__law_size) (defScope s__law_size) .none kV9 dc9 pm9 an9 cd9 ct9), sl9⟩) (c9 : PySem.W.codeIn K cd9 "_law_size" = true) (k9 : PySem.W.keepIn K (.ref f9) = true)
    (a10 : PySem.W.nsIn K mainGlobals "_law_plan" = some (some (.ref f10))) (l10 : K.lookup f10 = some ⟨oc10, od10, .func (PySem.W.fnOf "_law_plan" "_law_plan" (defArgs s__law_plan) (defBody s__law_plan) (defScope s__law_plan) .none kV10 dc10 pm10 an10 cd10 ct10), sl10⟩) (c10 : PySem.W.codeIn K cd10 "_law_plan" = true) (k10 : PySem.W.keepIn K (.ref f10) = true)
    (a11 : PySem.W.nsIn K mainGlobals "_law_begun" = some (some (.ref f11))) (l11 : K.lookup f11 = some ⟨oc11, od11, .func (PySem.W.fnOf "_law_begun" "_law_begun" (defArgs s__law_begun) (defBody s__law_begun) (defScope s__law_begun) .none kV11 dc11 pm11 an11 cd11 ct11), sl11⟩) (c11 : PySem.W.codeIn K cd11 "_law_begun" = true) (k11 : PySem.W.keepIn K (.ref f11) = true)
    (a12 : PySem.W.nsIn K mainGlobals "_law_dealt" = some (some (.ref f12))) (l12 : K.lookup f12 = some ⟨oc12, od12, .func (PySem.W.fnOf "_law_dealt" "_law_dealt" (defArgs s__law_dealt) (defBody s__law_dealt) (defScope s__law_dealt) .none kV12 dc12 pm12 an12 cd12 ct12), sl12⟩) (c12 : PySem.W.codeIn K cd12 "_law_dealt" = true) (k12 : PySem.W.keepIn K (.ref f12) = true)
    (a13 : PySem.W.nsIn K mainGlobals "_law_closed" = some (some (.ref f13))) (l13 : K.lookup f13 = some ⟨oc13, od13, .func (PySem.W.fnOf "_law_closed" "_law_closed" (defArgs s__law_closed) (defBody s__law_closed) (defScope s__law_closed) .none kV13 dc13 pm13 an13 cd13 ct13), sl13⟩) (c13 : PySem.W.codeIn K cd13 "_law_closed" = true) (k13 : PySem.W.keepIn K (.ref f13) = true)
    (a14 : PySem.W.nsIn K mainGlobals "_law_played" = some (some (.ref f14))) (l14 : K.lookup f14 = some ⟨oc14, od14, .func (PySem.W.fnOf "_law_played" "_law_played" (defArgs s__law_played) (defBody s__law_played) (defScope s__law_played) .none kV14 dc14 pm14 an14 cd14 ct14), sl14⟩) (c14 : PySem.W.codeIn K cd14 "_law_played" = true) (k14 : PySem.W.keepIn K (.ref f14) = true)
    (a15 : PySem.W.nsIn K mainGlobals "_law_can" = some (some (.ref f15))) (l15 : K.lookup f15 = some ⟨oc15, od15, .func (PySem.W.fnOf "_law_can" "_law_can" (defArgs s__law_can) (defBody s__law_can) (defScope s__law_can) .none kV15 dc15 pm15 an15 cd15 ct15), sl15⟩) (c15 : PySem.W.codeIn K cd15 "_law_can" = true) (k15 : PySem.W.keepIn K (.ref f15) = true)
    (a16 : PySem.W.nsIn K mainGlobals "_law_right" = some (some (.ref f16))) (l16 : K.lookup f16 = some ⟨oc16, od16, .func (PySem.W.fnOf "_law_right" "_law_right" (defArgs s__law_right) (defBody s__law_right) (defScope s__law_right) .none kV16 dc16 pm16 an16 cd16 ct16), sl16⟩) (c16 : PySem.W.codeIn K cd16 "_law_right" = true) (k16 : PySem.W.keepIn K (.ref f16) = true)
    (a17 : PySem.W.nsIn K mainGlobals "law" = some (some (.ref f17))) (l17 : K.lookup f17 = some ⟨oc17, od17, .func (PySem.W.fnOf "law" "law" (defArgs s_law) (defBody s_law) (defScope s_law) .none kV17 dc17 pm17 an17 cd17 ct17), sl17⟩) (c17 : PySem.W.codeIn K cd17 "law" = true) (k17 : PySem.W.keepIn K (.ref f17) = true) :
    ∃ fd : FuncData, (∀ (s : Shared) (v : Value), BindsTo s fd ⟨[v], []⟩ [("script", v)]) ∧ ∀ base : Heap, K.In base → base.Ns mainGlobals mg → FnG P w K mg base 6 fa fd ["script"] (spOf K (fLaw 63)) := by
  have T : Txt K mg := ⟨PySem.W.mg_none_of X G zb_abs,
    PySem.W.mg_none_of X G zb_bool,
    PySem.W.mg_none_of X G zb_enumerate,
    PySem.W.mg_none_of X G zb_int,
    PySem.W.mg_none_of X G zb_isinstance,
    PySem.W.mg_none_of X G zb_len,
    PySem.W.mg_none_of X G zb_list,
    PySem.W.mg_none_of X G zb_max,
    PySem.W.mg_none_of X G zb_min,
    PySem.W.mg_none_of X G zb_range,
    PySem.W.mg_none_of X G zb_str,
    PySem.W.mg_none_of X G zb_tuple,
    ⟨tk_AGAIN, PySem.W.mg_of X G zc_AGAIN⟩,
    ⟨tk_END, PySem.W.mg_of X G zc_END⟩,
    ⟨tk_LATE, PySem.W.mg_of X G zc_LATE⟩,
    ⟨tk_LOST, PySem.W.mg_of X G zc_LOST⟩,
    ⟨tk_MOST_DISTANCE, PySem.W.mg_of X G zc_MOST_DISTANCE⟩,
    ⟨tk_MOST_HOUSES, PySem.W.mg_of X G zc_MOST_HOUSES⟩,
    ⟨tk_MOST_SIZE, PySem.W.mg_of X G zc_MOST_SIZE⟩,
    ⟨ad_ORDERS, PySem.W.mg_of X G zc_ORDERS, _, [.str "least" tk_ORDERS0, .str "greatest" tk_ORDERS1, .str "oldest" tk_ORDERS2, .str "newest" tk_ORDERS3], nn_ORDERS, zl_ORDERS, rfl, rfl, Nat.le_of_ble_eq_true rfl, (.cons ⟨tk_ORDERS0, rfl⟩ (.cons ⟨tk_ORDERS1, rfl⟩ (.cons ⟨tk_ORDERS2, rfl⟩ (.cons ⟨tk_ORDERS3, rfl⟩ .nil))))⟩,
    ⟨tk_POOL, PySem.W.mg_of X G zc_POOL⟩,
    ⟨tk_TAKE, PySem.W.mg_of X G zc_TAKE⟩,
    here_mk X G a0 l0 c0 k0,
    here_mk X G a1 l1 c1 k1,
    here_mk X G a2 l2 c2 k2,
    here_mk X G a3 l3 c3 k3,
    here_mk X G a4 l4 c4 k4,
    here_mk X G a5 l5 c5 k5,
    here_mk X G a6 l6 c6 k6,
    here_mk X G a7 l7 c7 k7,
    here_mk X G a8 l8 c8 k8,
    here_mk X G a9 l9 c9 k9,
    here_mk X G a10 l10 c10 k10,
    here_mk X G a11 l11 c11 k11,
    here_mk X G a12 l12 c12 k12,
    here_mk X G a13 l13 c13 k13,
    here_mk X G a14 l14 c14 k14,
    here_mk X G a15 l15 c15 k15,
    here_mk X G a16 l16 c16 k16,
    here_mk X G a17 l17 c17 k17⟩
  exact law_mk T.h_law (fun F => t_law F T) (fun _ _ _ _ _ _ _ => rfl) hfa
end DL

open PySem PySem.W PyProof.Rows in
set_option maxRecDepth 100000 in
set_option maxHeartbeats 0 in
theorem PySem.Challenge.cw_holesleft_k65_late_weavings_holds : PySem.Challenge.rw_holesleft_k65_late_weavings.Holds := by
  w_on; o_law; k_head; (case hw => w_witness2)
  k_fill
  refine DL.walk_dl (l := PySem.Challenge.rw_holesleft_k65_late_weavings) (n := 63) (k := 6) (x := "script") rfl (by decide) rfl ⟨rfl, by decide, by decide⟩ (fun w h Y => PySem.W.kIn_of Y) ?F
  case F =>
    intro w mg fa h KX G hmg
    refine' DL.all_mk KX G hmg ?zb_abs ?zb_bool ?zb_enumerate ?zb_int ?zb_isinstance ?zb_len ?zb_list ?zb_max ?zb_min ?zb_range ?zb_str ?zb_tuple ?zc_AGAIN ?zc_END ?zc_LATE ?zc_LOST ?zc_MOST_DISTANCE ?zc_MOST_HOUSES ?zc_MOST_SIZE ?zc_ORDERS ?zl_ORDERS ?zc_POOL ?zc_TAKE ?a0 ?l0 ?c0 ?k0 ?a1 ?l1 ?c1 ?k1 ?a2 ?l2 ?c2 ?k2 ?a3 ?l3 ?c3 ?k3 ?a4 ?l4 ?c4 ?k4 ?a5 ?l5 ?c5 ?k5 ?a6 ?l6 ?c6 ?k6 ?a7 ?l7 ?c7 ?k7 ?a8 ?l8 ?c8 ?k8 ?a9 ?l9 ?c9 ?k9 ?a10 ?l10 ?c10 ?k10 ?a11 ?l11 ?c11 ?k11 ?a12 ?l12 ?c12 ?k12 ?a13 ?l13 ?c13 ?k13 ?a14 ?l14 ?c14 ?k14 ?a15 ?l15 ?c15 ?k15 ?a16 ?l16 ?c16 ?k16 ?a17 ?l17 ?c17 ?k17
    (case zb_abs => k_is)
    (case zb_bool => k_is)
    (case zb_enumerate => k_is)
    (case zb_int => k_is)
    (case zb_isinstance => k_is)
    (case zb_len => k_is)
    (case zb_list => k_is)
    (case zb_max => k_is)
    (case zb_min => k_is)
    (case zb_range => k_is)
    (case zb_str => k_is)
    (case zb_tuple => k_is)
    (case zc_AGAIN => k_is)
    (case zc_END => k_is)
    (case zc_LATE => k_is)
    (case zc_LOST => k_is)
    (case zc_MOST_DISTANCE => k_is)
    (case zc_MOST_HOUSES => k_is)
    (case zc_MOST_SIZE => k_is)
    (case zc_ORDERS => k_is)
    (case zl_ORDERS => k_is)
    (case zc_POOL => k_is)
    (case zc_TAKE => k_is)
    (case a0 => k_is)
    (case l0 => k_is)
    (case c0 => k_is)
    (case k0 => k_is)
    (case a1 => k_is)
    (case l1 => k_is)
    (case c1 => k_is)
    (case k1 => k_is)
    (case a2 => k_is)
    (case l2 => k_is)
    (case c2 => k_is)
    (case k2 => k_is)
    (case a3 => k_is)
    (case l3 => k_is)
    (case c3 => k_is)
    (case k3 => k_is)
    (case a4 => k_is)
    (case l4 => k_is)
    (case c4 => k_is)
    (case k4 => k_is)
    (case a5 => k_is)
    (case l5 => k_is)
    (case c5 => k_is)
    (case k5 => k_is)
    (case a6 => k_is)
    (case l6 => k_is)
    (case c6 => k_is)
    (case k6 => k_is)
    (case a7 => k_is)
    (case l7 => k_is)
    (case c7 => k_is)
    (case k7 => k_is)
    (case a8 => k_is)
    (case l8 => k_is)
    (case c8 => k_is)
    (case k8 => k_is)
    (case a9 => k_is)
    (case l9 => k_is)
    (case c9 => k_is)
    (case k9 => k_is)
    (case a10 => k_is)
    (case l10 => k_is)
    (case c10 => k_is)
    (case k10 => k_is)
    (case a11 => k_is)
    (case l11 => k_is)
    (case c11 => k_is)
    (case k11 => k_is)
    (case a12 => k_is)
    (case l12 => k_is)
    (case c12 => k_is)
    (case k12 => k_is)
    (case a13 => k_is)
    (case l13 => k_is)
    (case c13 => k_is)
    (case k13 => k_is)
    (case a14 => k_is)
    (case l14 => k_is)
    (case c14 => k_is)
    (case k14 => k_is)
    (case a15 => k_is)
    (case l15 => k_is)
    (case c15 => k_is)
    (case k15 => k_is)
    (case a16 => k_is)
    (case l16 => k_is)
    (case c16 => k_is)
    (case k16 => k_is)
    (case a17 => k_is)
    (case l17 => k_is)
    (case c17 => k_is)
    (case k17 => k_is)
