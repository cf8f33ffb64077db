import PyProof.Rows.All
import Wide.All
import OpenK.AllK
import Wide.FinOn
import HandS.ForMost
import HandS.ForExc
import HandS.Evl
import HandS.Flow
import HandS.Wide
import HandS.TupAny
import HandS.StrMore
import HandS.CallSlots
import HandS.Defaults
import HandS.IsInst
import KE.KStateDown
import HandS.More
import HandS.Words
import HandS.WordsExc
import HandS.Head0
import HandS.Head1
import HandS.Head2
import HandS.HeadEnd
import HandS.HeadHook1
import HandS.HeadHook2
import HandS.MakeKwOnly
import PySem.Challenge.RW_urlplaces_k25_stacks_of_paths
set_option Elab.async false
set_option linter.all false
set_option maxRecDepth 100000
set_option maxHeartbeats 4000000
/-! L3: values as plain data; readings at the level of data. -/
namespace L3
open PySem PySem.Spec PyProof.Rows L2 Evl

/-- plain data: what a value is, with all that it holds; cel k: the k-th changing object at hand -/
inductive D where
  | non | bl (b : Bool) | int (i : Int) | str (s : List Nat)
  | ls (l : List D) | tp (l : List D) | cel (k : Nat) | rl (l : List D)
  | ob (c : Str) (ns : List Str) (l : List D)
  | adr (a : Addr)
  | ty (n : String)
instance : Inhabited D := ⟨.non⟩
/-- a changing object's content -/
inductive MO where
  | ls (l : List D) | dc (l : List (Key × D)) | ob (c : Str) (ns : List Str) (l : List D) | dead
abbrev G := List (Option D)
abbrev MM := List MO
/-- an exception: its class's name, its fields -/
structure XD where
  c : Str
  ns : List Str
  l : List D

abbrev SS (l : List Nat) : Str := ⟨l.toArray⟩
def Asc (l : List Nat) : Prop := ∀ c ∈ l, c < 128
theorem asc_by {l : List Nat} (h : l.all (fun c => Nat.blt c 128) = true) : Asc l := fun c hc => Nat.blt_eq.mp (List.all_eq_true.mp h c hc)

inductive Is (K : PySem.W.Frag) (mg : Str → Option Value) (A : List Addr) (F : Hp) : V → D → Prop
  | non : Is K mg A F .non .non
  | bl (b : Bool) : Is K mg A F (.bl b) (.bl b)
  | int (i : Int) : Is K mg A F (.int i) (.int i)
  | str (l : List Nat) (h : Asc l) : Is K mg A F (.str (SS l)) (.str l)
  | rl {a : Addr} {xs : List V} {ds : List D} (h : SqL K F a xs) (n : xs.length = ds.length) (p : ∀ (i : Nat) (x : V) (d : D), xs[i]? = some x → ds[i]? = some d → Is K mg A F x d) : Is K mg A F (.ref a) (.rl ds)
  | ls {a : Addr} {xs : List V} {ds : List D} (h : F a = some (.lst xs)) (n : xs.length = ds.length) (p : ∀ (i : Nat) (x : V) (d : D), xs[i]? = some x → ds[i]? = some d → Is K mg A F x d) : Is K mg A F (.ref a) (.ls ds)
  | tp {a : Addr} {xs : List V} {ds : List D} (h : SqT K F a xs) (n : xs.length = ds.length) (p : ∀ (i : Nat) (x : V) (d : D), xs[i]? = some x → ds[i]? = some d → Is K mg A F x d) : Is K mg A F (.ref a) (.tp ds)
  | cel {a : Addr} {k : Nat} (h : A[k]? = some a) : Is K mg A F (.ref a) (.cel k)
  | ob {a C dx : Addr} {c : Str} {ns : List Str} {fs : List (Str × V)} {ds : List D} (hc : mg c = some (.ref C)) (h : F a = some (.ins C dx fs)) (hn : fs.map (·.1) = ns) (n : fs.length = ds.length)
      (p : ∀ (i : Nat) (x : V) (d : D), (fs.map (·.2))[i]? = some x → ds[i]? = some d → Is K mg A F x d) : Is K mg A F (.ref a) (.ob c ns ds)
  | adr (a : Addr) : Is K mg A F (.ref a) (.adr a)
  | ty (n : String) : Is K mg A F (.ty n) (.ty n)

section
variable {K : PySem.W.Frag} {mg : Str → Option Value} {A A' : List Addr} {F F' : Hp}
theorem Is.mono (ex : Ex F F') (pre : A <+: A') {v : V} {d : D} (h : Is K mg A F v d) : Is K mg A' F' v d := by
  induction h with
  | non => exact .non
  | bl b => exact .bl b
  | int i => exact .int i
  | str l h => exact .str l h
  | rl h n p ih => exact .rl (ex_l ex h) n fun i x d e1 e2 => ih i x d e1 e2
  | ls h n p ih => exact .ls (ex _ _ h) n fun i x d e1 e2 => ih i x d e1 e2
  | tp h n p ih => exact .tp (ex_t ex h) n fun i x d e1 e2 => ih i x d e1 e2
  | cel h => exact .cel (by
      obtain ⟨r, rfl⟩ := pre
      rw [List.getElem?_append_left (List.getElem?_eq_some_iff.mp h).1]
      exact h)
  | ob hc h hn n p ih => exact .ob hc (ex _ _ h) hn n fun i x d e1 e2 => ih i x d e1 e2
  | adr a => exact .adr a
  | ty n => exact .ty n

abbrev IsL (K : PySem.W.Frag) (mg : Str → Option Value) (A : List Addr) (F : Hp) : List V → List D → Prop := Paired (Is K mg A F)
theorem IsL.mono (ex : Ex F F') (pre : A <+: A') {vs : List V} {ds : List D} (h : IsL K mg A F vs ds) : IsL K mg A' F' vs ds := Paired.mapP h fun _ _ q => q.mono ex pre
theorem isL_of : ∀ {xs : List V} {ds : List D}, xs.length = ds.length → (∀ (i : Nat) (x : V) (d : D), xs[i]? = some x → ds[i]? = some d → Is K mg A F x d) → IsL K mg A F xs ds
  | [], [], _, _ => .nil
  | [], _ :: _, h, _ => by cases h
  | _ :: _, [], h, _ => by cases h
  | x :: xs, d :: ds, h, p => .cons (p 0 x d rfl rfl) (isL_of (by simpa using h) fun i y e h1 h2 => p (i + 1) y e (by simpa using h1) (by simpa using h2))
theorem IsL.get : ∀ {xs : List V} {ds : List D}, IsL K mg A F xs ds → ∀ (i : Nat) (x : V) (d : D), xs[i]? = some x → ds[i]? = some d → Is K mg A F x d
  | _, _, .nil, _, _, _, h, _ => by simp at h
  | _, _, .cons r t, 0, x, d, h1, h2 => by
    simp at h1 h2
    subst h1; subst h2
    exact r
  | _, _, .cons r t, i + 1, x, d, h1, h2 => IsL.get t i x d (by simpa using h1) (by simpa using h2)
theorem IsL.len {xs : List V} {ds : List D} (h : IsL K mg A F xs ds) : xs.length = ds.length := Paired.length h
theorem IsL.some {xs : List V} {ds : List D} (h : IsL K mg A F xs ds) {i : Nat} {d : D} (e : ds[i]? = some d) : ∃ x, xs[i]? = some x ∧ Is K mg A F x d := by
  have hl := h.len
  have hi : i < xs.length := by
    rw [hl]
    exact (List.getElem?_eq_some_iff.mp e).1
  exact ⟨xs[i], List.getElem?_eq_getElem hi, h.get i _ d (List.getElem?_eq_getElem hi) e⟩
theorem Is.lsL {a : Addr} {xs : List V} {ds : List D} (h : F a = some (.lst xs)) (p : IsL K mg A F xs ds) : Is K mg A F (.ref a) (.ls ds) := .ls h p.len p.get
theorem Is.tpL {a : Addr} {xs : List V} {ds : List D} (h : SqT K F a xs) (p : IsL K mg A F xs ds) : Is K mg A F (.ref a) (.tp ds) := .tp h p.len p.get
theorem is_ls {v : V} {ds : List D} (h : Is K mg A F v (.ls ds)) : ∃ a xs, v = .ref a ∧ F a = some (.lst xs) ∧ IsL K mg A F xs ds := by
  cases h with
  | ls h n p => exact ⟨_, _, rfl, h, isL_of n p⟩
theorem is_rl {v : V} {ds : List D} (h : Is K mg A F v (.rl ds)) : ∃ a xs, v = .ref a ∧ SqL K F a xs ∧ IsL K mg A F xs ds := by
  cases h with
  | rl h n p => exact ⟨_, _, rfl, h, isL_of n p⟩
theorem is_tp {v : V} {ds : List D} (h : Is K mg A F v (.tp ds)) : ∃ a xs, v = .ref a ∧ SqT K F a xs ∧ IsL K mg A F xs ds := by
  cases h with
  | tp h n p => exact ⟨_, _, rfl, h, isL_of n p⟩
theorem is_int {v : V} {i : Int} (h : Is K mg A F v (.int i)) : v = .int i := by cases h; rfl
theorem is_bl {v : V} {b : Bool} (h : Is K mg A F v (.bl b)) : v = .bl b := by cases h; rfl
theorem is_str {v : V} {l : List Nat} (h : Is K mg A F v (.str l)) : v = .str (SS l) := by cases h; rfl
theorem is_asc {v : V} {l : List Nat} (h : Is K mg A F v (.str l)) : Asc l := by cases h; assumption
theorem is_non {v : V} (h : Is K mg A F v .non) : v = .non := by cases h; rfl
theorem is_adr {v : V} {a : Addr} (h : Is K mg A F v (.adr a)) : v = .ref a := by cases h; rfl
theorem is_ty {v : V} {n : String} (h : Is K mg A F v (.ty n)) : v = .ty n := by cases h; rfl
theorem is_cel {v : V} {k : Nat} (h : Is K mg A F v (.cel k)) : ∃ a, v = .ref a ∧ A[k]? = some a := by
  cases h with
  | cel h => exact ⟨_, rfl, h⟩
theorem isL_strs : ∀ {xs : List V} {l : List (List Nat)}, IsL K mg A F xs (l.map .str) → xs = (l.map SS).map V.str
  | _, [], .nil => rfl
  | _, s :: l, .cons r t => by
    have e := is_str r
    have e2 := isL_strs t
    rw [e, e2]
    rfl
theorem isL_ints : ∀ {xs : List V} {l : List Int}, IsL K mg A F xs (l.map .int) → xs = l.map V.int
  | _, [], .nil => rfl
  | _, s :: l, .cons r t => by
    have e := is_int r
    have e2 := isL_ints t
    rw [e, e2]
    rfl
theorem isL_bls : ∀ {xs : List V} {l : List Bool}, IsL K mg A F xs (l.map .bl) → xs = l.map V.bl
  | _, [], .nil => rfl
  | _, s :: l, .cons r t => by
    have e := is_bl r
    have e2 := isL_bls t
    rw [e, e2]
    rfl
theorem isL_of_strs : ∀ (l : List (List Nat)), (∀ s ∈ l, Asc s) → IsL K mg A F ((l.map SS).map V.str) (l.map .str)
  | [], _ => .nil
  | s :: l, h => .cons (.str s (h s List.mem_cons_self)) (isL_of_strs l fun t ht => h t (List.mem_cons_of_mem _ ht))
theorem isL_asc : ∀ {xs : List V} {l : List (List Nat)}, IsL K mg A F xs (l.map .str) → ∀ s ∈ l, Asc s
  | _, [], .nil, _, h => by cases h
  | _, s :: l, .cons r t, q, h => by
    rcases List.mem_cons.mp h with e | e
    · rw [e]
      exact is_asc r
    · exact isL_asc t q e
theorem isL_of_ints : ∀ (l : List Int), IsL K mg A F (l.map V.int) (l.map .int)
  | [] => .nil
  | s :: l => .cons (.int s) (isL_of_ints l)
end

/-- what stands at the changing object a -/
def MoIs (K : PySem.W.Frag) (mg : Str → Option Value) (A : List Addr) (F H : Hp) (a : Addr) : MO → Prop
  | .ls ds => F a = none ∧ ∃ xs, H a = some (.lst xs) ∧ IsL K mg A F xs ds
  | .dc kvs => F a = none ∧ ∃ ks, H a = some (.dK ks) ∧ ks.map (·.1) = kvs.map (·.1) ∧ IsL K mg A F (ks.map (·.2)) (kvs.map (·.2))
  | .ob c ns ds => F a = none ∧ ∃ C dx fs, mg c = some (.ref C) ∧ H a = some (.ins C dx fs) ∧ fs.map (·.1) = ns ∧ IsL K mg A F (fs.map (·.2)) ds
  | .dead => True

theorem MoIs.mono {K : PySem.W.Frag} {mg : Str → Option Value} {A A' : List Addr} {F F' H H' : Hp} {a : Addr} {m : MO} (ex : Ex F F') (pre : A <+: A') (hf : F a = none → F' a = none) (hh : H' a = H a) (h : MoIs K mg A F H a m) : MoIs K mg A' F' H' a m := by
  cases m with
  | ls ds =>
    obtain ⟨z, xs, e, p⟩ := h
    exact ⟨hf z, xs, by rw [hh]; exact e, p.mono ex pre⟩
  | dc kvs =>
    obtain ⟨z, ks, e, q, p⟩ := h
    exact ⟨hf z, ks, by rw [hh]; exact e, q, p.mono ex pre⟩
  | ob c ns ds =>
    obtain ⟨z, C, dx, fs, h1, e, q, p⟩ := h
    exact ⟨hf z, C, dx, fs, h1, by rw [hh]; exact e, q, p.mono ex pre⟩
  | dead => trivial

/-- where a def began: what was known, the heap, the changing objects that it was handed -/
structure Org where
  F : Hp
  H : Hp
  A : List Addr

structure StK (K : PySem.W.Frag) (mg : Str → Option Value) (O : Org) (F : Hp) (A : List Addr) (H : Hp) (σ : L2.St) (Γ : G) (vs : List V) (T : List D) (M : MM) : Prop where
  exF : Ex O.F F
  exH : Ex F H
  nw : ∀ a o, F a = some o → O.F a = some o ∨ O.H a = none ∨ a ∈ O.A
  pre : O.A <+: A
  keep : ∀ a o, a ∉ O.A → O.H a = some o → H a = some o
  frs : ∀ a ∈ A, a ∉ O.A → O.H a = none
  nd : A.Nodup
  inH : ∀ a ∈ A, H a ≠ none
  len : A.length = M.length
  cells : ∀ (k : Nat) a m, A[k]? = some a → M[k]? = some m → MoIs K mg A F H a m
  sl : σ.length = Γ.length
  slot : ∀ (i : Nat) d, Γ[i]? = some (some d) → ∃ v, σ[i]? = some (some v) ∧ Is K mg A F v d
  tmp : IsL K mg A F vs T

abbrev StOk (X : Cx) := StK X.K X.mg

section
variable {X : Cx} {O : Org} {F : Hp} {A : List Addr} {H : Hp} {σ : L2.St} {Γ : G} {vs : List V} {T : List D} {M : MM}
theorem StOk.pop {v : V} {d : D} (s : StOk X O F A H σ Γ (v :: vs) (d :: T) M) : StOk X O F A H σ Γ vs T M :=
  ⟨s.exF, s.exH, s.nw, s.pre, s.keep, s.frs, s.nd, s.inH, s.len, s.cells, s.sl, s.slot, by cases s.tmp; assumption⟩
theorem StOk.top {v : V} {d : D} (s : StOk X O F A H σ Γ (v :: vs) (d :: T) M) : Is X.K X.mg A F v d := by cases s.tmp; assumption
theorem StOk.push {v : V} {d : D} (s : StOk X O F A H σ Γ vs T M) (h : Is X.K X.mg A F v d) : StOk X O F A H σ Γ (v :: vs) (d :: T) M :=
  ⟨s.exF, s.exH, s.nw, s.pre, s.keep, s.frs, s.nd, s.inH, s.len, s.cells, s.sl, s.slot, .cons h s.tmp⟩
theorem StOk.pop2 {v w : V} {d e : D} (s : StOk X O F A H σ Γ (v :: w :: vs) (d :: e :: T) M) : StOk X O F A H σ Γ vs T M := s.pop.pop
theorem StOk.top2 {v w : V} {d e : D} (s : StOk X O F A H σ Γ (v :: w :: vs) (d :: e :: T) M) : Is X.K X.mg A F w e := s.pop.top
theorem StOk.fr (s : StOk X O F A H σ Γ vs T M) {p : Addr} (hp : H p = none) : O.H p = none := by
  cases q : O.H p with
  | none => rfl
  | some u =>
    by_cases h : p ∈ O.A
    · obtain ⟨r, e⟩ := s.pre
      exact absurd hp (s.inH p (by rw [← e]; exact List.mem_append_left _ h))
    · have := s.keep p u h q
      rw [hp] at this
      cases this
/-- a new thing, known from here on -/
theorem StOk.new {p : Addr} {o : HO} (s : StOk X O F A H σ Γ vs T M) (hp : H p = none) : StOk X O (upd F p o) A (upd H p o) σ Γ vs T M := by
  have fp : F p = none := fresh_back s.exH hp
  have ex : Ex F (upd F p o) := Ex.new fp
  have ne : ∀ b u, H b = some u → b ≠ p := fun b u e => ne_of_none e hp
  refine ⟨s.exF.trans ex, fun b u e => ?_, fun b u e => ?_, s.pre, fun b u hb e => ?_, s.frs, s.nd, fun b hb => ?_, s.len, fun k a m e1 e2 => ?_, s.sl, fun i d e => ?_, s.tmp.mono ex (List.prefix_refl _)⟩
  · by_cases hb : b = p
    · subst hb
      rw [upd_same] at e
      rw [upd_same, e]
    · rw [upd_ne hb] at e
      rw [upd_ne hb]
      exact s.exH b u e
  · by_cases hb : b = p
    · exact .inr (.inl (by rw [hb]; exact s.fr hp))
    · rw [upd_ne hb] at e
      exact s.nw b u e
  · have q := s.keep b u hb e
    rw [upd_ne (ne b u q)]
    exact q
  · have q := s.inH b hb
    rw [upd_ne (fun z => q (by rw [z]; exact hp))]
    exact q
  · have c := s.cells k a m e1 e2
    cases m with
    | dead => trivial
    | ls ds =>
      have ha : a ≠ p := by
        obtain ⟨_, xs, e, _⟩ := c
        exact ne a _ e
      exact c.mono ex (List.prefix_refl _) (fun z => by rw [upd_ne ha]; exact z) (upd_ne ha)
    | dc ds =>
      have ha : a ≠ p := by
        obtain ⟨_, xs, e, _⟩ := c
        exact ne a _ e
      exact c.mono ex (List.prefix_refl _) (fun z => by rw [upd_ne ha]; exact z) (upd_ne ha)
    | ob c' ns ds =>
      have ha : a ≠ p := by
        obtain ⟨_, C, dx, fs, _, e, _⟩ := c
        exact ne a _ e
      exact c.mono ex (List.prefix_refl _) (fun z => by rw [upd_ne ha]; exact z) (upd_ne ha)
  · obtain ⟨v, h1, h2⟩ := s.slot i d e
    exact ⟨v, h1, h2.mono ex (List.prefix_refl _)⟩
/-- a new thing that may change -/
theorem StOk.newC {p : Addr} {o : HO} {m : MO} (s : StOk X O F A H σ Γ vs T M) (hp : H p = none) (hm : MoIs X.K X.mg A F (upd H p o) p m) : StOk X O F (A ++ [p]) (upd H p o) σ Γ vs T (M ++ [m]) := by
  have fp : F p = none := fresh_back s.exH hp
  have pA : p ∉ A := fun z => s.inH p z hp
  have pre : A <+: A ++ [p] := ⟨[p], rfl⟩
  have ne : ∀ b u, H b = some u → b ≠ p := fun b u e => ne_of_none e hp
  have exr : Ex F F := Ex.refl F
  refine ⟨s.exF, fun b u e => ?_, s.nw, s.pre.trans pre, fun b u hb e => ?_, fun a ha hO => ?_, ?_, fun b hb => ?_, by simp [s.len], fun k a m' e1 e2 => ?_, s.sl, fun i d e => ?_, s.tmp.mono exr pre⟩
  · have q := s.exH b u e
    rw [upd_ne (ne b u q)]
    exact q
  · have q := s.keep b u hb e
    rw [upd_ne (ne b u q)]
    exact q
  · rcases List.mem_append.mp ha with h | h
    · exact s.frs a h hO
    · have e : a = p := by simpa using h
      subst e
      cases q : O.H a with
      | none => rfl
      | some u =>
        have := s.keep a u hO q
        rw [hp] at this
        cases this
  · rw [List.nodup_append]
    refine ⟨s.nd, by simp, fun a ha b hb => ?_⟩
    have e : b = p := by simpa using hb
    subst e
    exact fun z => pA (z ▸ ha)
  · rcases List.mem_append.mp hb with h | h
    · have q := s.inH b h
      rw [upd_ne (fun z => pA (by rw [← z]; exact h))]
      exact q
    · have e : b = p := by simpa using h
      rw [e, upd_same]
      simp
  · by_cases hk : k < A.length
    · rw [List.getElem?_append_left hk] at e1
      rw [List.getElem?_append_left (by rw [← s.len]; exact hk)] at e2
      have c := s.cells k a m' e1 e2
      have ha : a ≠ p := fun z => pA (z ▸ List.mem_of_getElem? e1)
      exact c.mono exr pre (fun z => z) (upd_ne ha)
    · rw [List.getElem?_append_right (by omega)] at e1
      rw [List.getElem?_append_right (by rw [← s.len]; omega), ← s.len] at e2
      have hk0 : k - A.length = 0 := by
        have := (List.getElem?_eq_some_iff.mp e1).1
        simp at this
        omega
      rw [hk0] at e1 e2
      simp at e1 e2
      subst e1; subst e2
      exact hm.mono exr pre (fun z => z) rfl
  · obtain ⟨v, h1, h2⟩ := s.slot i d e
    exact ⟨v, h1, h2.mono exr pre⟩
end
end L3

namespace L3
open PySem PySem.Spec PyProof.Rows L2 Evl

/-! ### best readings: of an expression, a test, an operation by values -/
structure BE (X : Cx) (e : Expr) (σ : L2.St) (H : Hp) (Q : VK) : Prop where
  go : ∀ pins s, Inv X pins σ H s → wpAny (model X.prog X.w) X.A (eval e X.env) (EP X pins σ Q) X.xe s
structure BT (X : Cx) (e : Expr) (σ : L2.St) (H : Hp) (Q : Bool → Hp → Prop) : Prop where
  go : ∀ pins s, Inv X pins σ H s → wpAny (model X.prog X.w) X.A (isTrue e X.env (eval e X.env)) (TP X pins σ Q) X.xe s
structure BW (X : Cx) (e : Expr) (σ : L2.St) (H : Hp) (Q : Bool → Hp → Prop) : Prop where
  go : ∀ (whole : Sem Value) pins s, Inv X pins σ H s → wpAny (model X.prog X.w) X.A (isTrue e X.env whole) (TP X pins σ Q) X.xe s
structure BA (X : Cx) (es : List Expr) (σ : L2.St) (H : Hp) (Q : List V → Hp → Prop) : Prop where
  go : ∀ (pos : Pos) pins s, Inv X pins σ H s → wpAny (model X.prog X.w) X.A (spliced (backTo pos (starEach es X.env))) (AP X pins σ Q) X.xe s
structure BS (X : Cx) (st : Stmt) (D : Ends) (σ : L2.St) (H : Hp) : Prop where
  go : ∀ pins s, Inv X pins σ H s → wpAny (model X.prog X.w) X.A (exec st X.env) (SP X pins D) X.xe s
structure BB (X : Cx) (st : List Stmt) (D : Ends) (σ : L2.St) (H : Hp) : Prop where
  go : ∀ pins s, Inv X pins σ H s → wpAny (model X.prog X.w) X.A (execs st X.env) (SP X pins D) X.xe s
structure BO (X : Cx) (f : Value → Value → Sem Value) (x y : V) (H : Hp) (Q : VK) : Prop where
  go : ∀ pins s σ v u, Inv X pins σ H s → RelV x v → RelV y u → wpAny (model X.prog X.w) X.A (f v u) (EP X pins σ Q) X.xe s
abbrev bE (X : Cx) (e : Expr) : TE := fun σ H Q => BE X e σ H Q
abbrev bT (X : Cx) (e : Expr) : TT := fun σ H Q => BT X e σ H Q
abbrev bW (X : Cx) (e : Expr) : TT := fun σ H Q => BW X e σ H Q
abbrev bA (X : Cx) (es : List Expr) : TA := fun σ H Q => BA X es σ H Q
abbrev bS (X : Cx) (st : Stmt) : TS := fun D σ H => BS X st D σ H
abbrev bB (X : Cx) (st : List Stmt) : TS := fun D σ H => BB X st D σ H
abbrev bO (X : Cx) (f : Value → Value → Sem Value) : R2 := fun x y H Q => BO X f x y H Q
section
variable {X : Cx} {e : Expr} {es : List Expr} {st : Stmt} {sts : List Stmt} {f : Value → Value → Sem Value}
theorem bE_ok : PE X e (bE X e) := ⟨fun pins s _ _ _ I h => h.go pins s I⟩
theorem bT_ok : PT X e (bT X e) := ⟨fun pins s _ _ _ I h => h.go pins s I⟩
theorem bW_ok : PW X e (bW X e) := ⟨fun wh pins s _ _ _ I h => h.go wh pins s I⟩
theorem bA_ok : PA X es (bA X es) := ⟨fun pos pins s _ _ _ I h => h.go pos pins s I⟩
theorem bS_ok : PS X st (bS X st) := ⟨fun pins s _ _ _ I h => h.go pins s I⟩
theorem bB_ok : PSs X sts (bB X sts) := ⟨fun pins s _ _ _ I h => h.go pins s I⟩
theorem bO_ok : OpR X f (bO X f) := fun pins s σ _ _ _ v u _ I r1 r2 h => h.go pins s σ v u I r1 r2
theorem bE_of {t : TE} {σ : L2.St} {H : Hp} {Q : VK} (h : PE X e t) (q : t σ H Q) : bE X e σ H Q := ⟨fun pins s I => h.run pins s σ H Q I q⟩
theorem bT_of {t : TT} {σ : L2.St} {H : Hp} {Q : Bool → Hp → Prop} (h : PT X e t) (q : t σ H Q) : bT X e σ H Q := ⟨fun pins s I => h.run pins s σ H Q I q⟩
theorem bW_of {t : TT} {σ : L2.St} {H : Hp} {Q : Bool → Hp → Prop} (h : PW X e t) (q : t σ H Q) : bW X e σ H Q := ⟨fun wh pins s I => h.run wh pins s σ H Q I q⟩
theorem bA_of {t : TA} {σ : L2.St} {H : Hp} {Q : List V → Hp → Prop} (h : PA X es t) (q : t σ H Q) : bA X es σ H Q := ⟨fun pos pins s I => h.run pos pins s σ H Q I q⟩
theorem bS_of {t : TS} {σ : L2.St} {H : Hp} {E : Ends} (h : PS X st t) (q : t E σ H) : bS X st E σ H := ⟨fun pins s I => h.run pins s σ H E I q⟩
theorem bB_of {t : TS} {σ : L2.St} {H : Hp} {E : Ends} (h : PSs X sts t) (q : t E σ H) : bB X sts E σ H := ⟨fun pins s I => h.run pins s σ H E I q⟩
theorem bO_of {r : R2} {x y : V} {H : Hp} {Q : VK} (h : OpR X f r) (q : r x y H Q) : bO X f x y H Q := ⟨fun pins s σ v u I r1 r2 => h pins s σ H x y v u Q I r1 r2 q⟩
theorem bE_mono {σ : L2.St} {H : Hp} {Q Q' : VK} (h : bE X e σ H Q) (q : ∀ v H', Q v H' → Q' v H') : bE X e σ H Q' := ⟨fun pins s I =>
  thn (h.go pins s I) fun _ _ ⟨v, H', I', r, z⟩ => ⟨v, H', I', r, q v H' z⟩⟩
theorem bT_mono {σ : L2.St} {H : Hp} {Q Q' : Bool → Hp → Prop} (h : bT X e σ H Q) (q : ∀ v H', Q v H' → Q' v H') : bT X e σ H Q' := ⟨fun pins s I =>
  thn (h.go pins s I) fun _ _ ⟨H', I', z⟩ => ⟨H', I', q _ H' z⟩⟩
theorem bW_mono {σ : L2.St} {H : Hp} {Q Q' : Bool → Hp → Prop} (h : bW X e σ H Q) (q : ∀ v H', Q v H' → Q' v H') : bW X e σ H Q' := ⟨fun wh pins s I =>
  thn (h.go wh pins s I) fun _ _ ⟨H', I', z⟩ => ⟨H', I', q _ H' z⟩⟩
theorem bA_mono {σ : L2.St} {H : Hp} {Q Q' : List V → Hp → Prop} (h : bA X es σ H Q) (q : ∀ v H', Q v H' → Q' v H') : bA X es σ H Q' := ⟨fun pos pins s I =>
  thn (h.go pos pins s I) fun _ _ ⟨v, H', I', r, z⟩ => ⟨v, H', I', r, q v H' z⟩⟩
theorem bO_mono {x y : V} {H : Hp} {Q Q' : VK} (h : bO X f x y H Q) (q : ∀ v H', Q v H' → Q' v H') : bO X f x y H Q' := ⟨fun pins s σ v u I r1 r2 =>
  thn (h.go pins s σ v u I r1 r2) fun _ _ ⟨v, H', I', r, z⟩ => ⟨v, H', I', r, q v H' z⟩⟩
end

/-! ### readings by data -/
abbrev Kd := D → MM → Prop
abbrev Kb := Bool → MM → Prop
abbrev Kl := List D → MM → Prop
abbrev Rx := XD → G → MM → Prop
abbrev DE := G → MM → Kd → Rx → Prop
abbrev DT := G → MM → Kb → Rx → Prop
abbrev DA := G → MM → Kl → Rx → Prop
abbrev DO2 := D → D → MM → Kd → Prop

def XIs (K : PySem.W.Frag) (mg : Str → Option Value) (A : List Addr) (F : Hp) (cls : Value) (d : Option Addr) (x : XD) : Prop :=
  ∃ C, mg x.c = some (.ref C) ∧ cls = .ref C ∧ ((x.ns = [] ∧ x.l = [] ∧ d = none) ∨ ∃ dd fs, d = some dd ∧ F dd = some (.xd fs) ∧ fs.map (·.1) = x.ns ∧ IsL K mg A F (fs.map (·.2)) x.l)
def Lift (X : Cx) (W : WX) (O : Org) (vs : List V) (T : List D) (R : Rx) : Prop :=
  ∀ x σ Γ M F A H cls d, StOk X O F A H σ Γ vs T M → XIs X.K X.mg A F cls d x → R x Γ M → W cls d σ H
def Post (X : Cx) (O : Org) (σ : L2.St) (Γ : G) (vs : List V) (T : List D) (K : Kd) : VK := fun v H' => ∃ d M' F' A', StOk X O F' A' H' σ Γ (v :: vs) (d :: T) M' ∧ K d M'
def PostT (X : Cx) (O : Org) (σ : L2.St) (Γ : G) (vs : List V) (T : List D) (K : Kb) : Bool → Hp → Prop := fun b H' => ∃ M' F' A', StOk X O F' A' H' σ Γ vs T M' ∧ K b M'
def PostA (X : Cx) (O : Org) (σ : L2.St) (Γ : G) (vs : List V) (T : List D) (K : Kl) : List V → Hp → Prop := fun ws H' => ∃ ds M' F' A', StOk X O F' A' H' σ Γ vs T M' ∧ IsL X.K X.mg A' F' ws ds ∧ K ds M'
theorem Lift.pop {X : Cx} {W : WX} {O : Org} {vs : List V} {T : List D} {R : Rx} (h : Lift X W O vs T R) {v : V} {d : D} : Lift X W O (v :: vs) (d :: T) R :=
  fun x σ Γ M F A H cls d' s xi r => h x σ Γ M F A H cls d' s.pop xi r

def SE (X : Cx) (e : Expr) (t : DE) : Prop := ∀ (W : WX), Takes X W → ∀ O F A H σ Γ vs T M K R, StOk X O F A H σ Γ vs T M → Lift X W O vs T R → t Γ M K R → bE X e σ H (Post X O σ Γ vs T K)
def ST (X : Cx) (e : Expr) (t : DT) : Prop := ∀ (W : WX), Takes X W → ∀ O F A H σ Γ vs T M K R, StOk X O F A H σ Γ vs T M → Lift X W O vs T R → t Γ M K R → bT X e σ H (PostT X O σ Γ vs T K)
def SW (X : Cx) (e : Expr) (t : DT) : Prop := ∀ (W : WX), Takes X W → ∀ O F A H σ Γ vs T M K R, StOk X O F A H σ Γ vs T M → Lift X W O vs T R → t Γ M K R → bW X e σ H (PostT X O σ Γ vs T K)
def SA (X : Cx) (es : List Expr) (t : DA) : Prop := ∀ (W : WX), Takes X W → ∀ O F A H σ Γ vs T M K R, StOk X O F A H σ Γ vs T M → Lift X W O vs T R → t Γ M K R → bA X es σ H (PostA X O σ Γ vs T K)
/-- an operation on two values -/
def OpD (X : Cx) (f : Value → Value → Sem Value) (r : DO2) : Prop := ∀ O F A H σ Γ vs T M K v1 v2 d1 d2, StOk X O F A H σ Γ vs T M → Is X.K X.mg A F v1 d1 → Is X.K X.mg A F v2 d2 → r d1 d2 M K → bO X f v1 v2 H (Post X O σ Γ vs T K)

section
variable {X : Cx} {a b e : Expr} {es : List Expr} {ta tb te : DE} {tt tu : DT} {tr : DA} {pos : Pos}
/-! ### names, constants -/
def dVar (i : Nat) : DE := fun Γ M K _ => ∃ d, Γ[i]? = some (some d) ∧ K d M
def dC (d : D) : DE := fun _ M K _ => K d M
theorem se_var (i : Nat) {x : Str} (hN : X.N[i]? = some x := by rfl) (hv : Vis X.env.scope x := by first | exact Or.inl rfl | exact Or.inr (Or.inl rfl) | exact Or.inr (Or.inr rfl)) (hd : (x == ("__debug__" : Str)) = false := by decide)
    (hcd : (x == ("__classdict__" : Str)) = false := by decide) : SE X (.Name x pos) (dVar i) := by
  intro W tk O F A H σ Γ vs T M K R s lf h
  obtain ⟨d, e1, k⟩ := h
  obtain ⟨v, e2, is⟩ := s.slot i d e1
  exact bE_of (pe_var hN hv hd hcd) ⟨v, e2, d, M, F, A, s.push is, k⟩
theorem se_c {v : V} {d : D} (hp : PE X e (tC v)) (h : ∀ A F, Is X.K X.mg A F v d) : SE X e (dC d) := by
  intro W tk O F A H σ Γ vs T M K R s lf k
  exact bE_of hp ⟨d, M, F, A, s.push (h A F), k⟩
theorem se_int {i : Int} {j : Nat} : SE X (.Constant (.int i) j pos) (dC (.int i)) := se_c pe_int fun _ _ => .int i
theorem se_bl {i : Bool} {j : Nat} : SE X (.Constant (.bool i) j pos) (dC (.bl i)) := se_c pe_bl fun _ _ => .bl i
theorem se_non {j : Nat} : SE X (.Constant .none j pos) (dC .non) := se_c pe_non fun _ _ => .non
theorem se_str {x : Str} {l : List Nat} {j : Nat} (h : x = SS l := by rfl) (ha : Asc l := by exact asc_by rfl) : SE X (.Constant (.str x) j pos) (dC (.str l)) := se_c pe_str fun _ _ => by
  rw [h]
  exact .str l ha
/-- a name of the module -/
theorem se_glob {x : Str} {v : V} {d : D} {u : Value} (hg : Gl X x) (hm : X.mg x = some u) (r : RelV v u) (h : ∀ A F, Is X.K X.mg A F v d) (hd : (x == ("__debug__" : Str)) = false := by decide) : SE X (.Name x pos) (dC d) :=
  se_c (pe_glob hg hm r hd) h

/-! ### operations -/
def dOp (r : DO2) (ta tb : DE) : DE := fun Γ M K R => ta Γ M (fun d1 M1 => tb Γ M1 (fun d2 M2 => r d1 d2 M2 K) R) R
theorem two {r : DO2} (sa : SE X a ta) (sb : SE X b tb) {W : WX} (tk : Takes X W) {O : Org} {F : Hp} {A : List Addr} {H : Hp} {σ : L2.St} {Γ : G} {vs : List V} {T : List D} {M : MM} {K : Kd} {R : Rx} (s : StOk X O F A H σ Γ vs T M) (lf : Lift X W O vs T R) (h : dOp r ta tb Γ M K R)
    {B : V → V → Hp → Prop} (fin : ∀ v1 v2 d1 d2 M2 F2 A2 H2, StOk X O F2 A2 H2 σ Γ vs T M2 → Is X.K X.mg A2 F2 v1 d1 → Is X.K X.mg A2 F2 v2 d2 → r d1 d2 M2 K → B v1 v2 H2) :
    bE X a σ H fun v1 H1 => bE X b σ H1 fun v2 H2 => B v1 v2 H2 :=
  bE_mono (sa W tk O F A H σ Γ vs T M _ R s lf h) fun v1 H1 ⟨d1, M1, F1, A1, s1, h1⟩ =>
    bE_mono (sb W tk O F1 A1 H1 σ Γ (v1 :: vs) (d1 :: T) M1 _ R s1 lf.pop h1) fun v2 H2 ⟨d2, M2, F2, A2, s2, h2⟩ =>
      fin v1 v2 d1 d2 M2 F2 A2 H2 s2.pop.pop s2.pop.top s2.top h2
theorem se_bin {op : Operator} {r : DO2} (ho : OpD X (binaryOp op) r) (sa : SE X a ta) (sb : SE X b tb) : SE X (.BinOp a op b pos) (dOp r ta tb) := by
  intro W tk O F A H σ Γ vs T M K R s lf h
  refine bE_of (pe_op bO_ok bE_ok bE_ok) ?_
  exact two sa sb tk s lf h fun v1 v2 d1 d2 M2 F2 A2 H2 s2 i1 i2 k => ho O F2 A2 H2 σ Γ vs T M2 K v1 v2 d1 d2 s2 i1 i2 k
theorem se_cmp {op : CmpOp} {r : DO2} (ho : OpD X (compareOp op) r) (sa : SE X a ta) (sb : SE X b tb) (hm : behindInMarks op b = false := by first | exact nomark _ | rfl) : SE X (.Compare a [op] [b] pos) (dOp r ta tb) := by
  intro W tk O F A H σ Γ vs T M K R s lf h
  refine bE_of (pe_cmpR bO_ok bE_ok bE_ok hm) ?_
  exact two sa sb tk s lf h fun v1 v2 d1 d2 M2 F2 A2 H2 s2 i1 i2 k => ho O F2 A2 H2 σ Γ vs T M2 K v1 v2 d1 d2 s2 i1 i2 k
end
end L3

namespace L3
open PySem PySem.Spec PyProof.Rows L2 Evl
open Classical

/-! ### what a value is, seen through the changing objects -/
def lsOf (M : MM) : D → Option (List D)
  | .ls l => some l
  | .rl l => some l
  | .cel k => match M[k]? with
    | some (.ls l) => some l
    | _ => none
  | _ => none
/-- .. of the program's own making -/
def lsOwn (M : MM) : D → Option (List D)
  | .ls l => some l
  | .cel k => match M[k]? with
    | some (.ls l) => some l
    | _ => none
  | _ => none
def tpOf : D → Option (List D)
  | .tp l => some l
  | _ => none
def sqOf (M : MM) (d : D) : Option (List D) := (lsOf M d).or (tpOf d)
section
variable {X : Cx} {O : Org} {F : Hp} {A : List Addr} {H : Hp} {σ : L2.St} {Γ : G} {vs : List V} {T : List D} {M : MM} {v : V} {d : D} {l : List D}
theorem StOk.own (s : StOk X O F A H σ Γ vs T M) (i : Is X.K X.mg A F v d) (h : lsOwn M d = some l) : ∃ a xs, v = .ref a ∧ H a = some (.lst xs) ∧ IsL X.K X.mg A F xs l := by
  cases d with
  | ls l' =>
    obtain ⟨a, xs, rfl, e, p⟩ := is_ls i
    have e2 : l' = l := Option.some.inj h
    subst e2
    exact ⟨a, xs, rfl, s.exH _ _ e, p⟩
  | cel k =>
    obtain ⟨a, rfl, e⟩ := is_cel i
    replace h : (match M[k]? with | some (.ls l) => some l | _ => none) = some l := h
    cases q : M[k]? with
    | none => rw [q] at h; cases h
    | some m =>
      rw [q] at h
      have c := s.cells k a m e q
      cases m with
      | ls l' =>
        have e2 : l' = l := Option.some.inj h
        subst e2
        obtain ⟨_, xs, e3, p⟩ := c
        exact ⟨a, xs, rfl, e3, p⟩
      | _ => cases h
  | _ => cases h
theorem StOk.lst (s : StOk X O F A H σ Γ vs T M) (i : Is X.K X.mg A F v d) (h : lsOf M d = some l) : ∃ a xs, v = .ref a ∧ SqL X.K H a xs ∧ IsL X.K X.mg A F xs l := by
  cases d with
  | rl l' =>
    obtain ⟨a, xs, rfl, e, p⟩ := is_rl i
    have e2 : l' = l := Option.some.inj h
    subst e2
    exact ⟨a, xs, rfl, ex_l s.exH e, p⟩
  | ls l' =>
    obtain ⟨a, xs, rfl, e, p⟩ := s.own i (l := l) h
    exact ⟨a, xs, rfl, sq_of e, p⟩
  | cel k =>
    obtain ⟨a, xs, rfl, e, p⟩ := s.own i (l := l) h
    exact ⟨a, xs, rfl, sq_of e, p⟩
  | _ => cases h
theorem StOk.tup (s : StOk X O F A H σ Γ vs T M) (i : Is X.K X.mg A F v d) (h : tpOf d = some l) : ∃ a xs, v = .ref a ∧ SqT X.K H a xs ∧ IsL X.K X.mg A F xs l := by
  cases d with
  | tp l' =>
    obtain ⟨a, xs, rfl, e, p⟩ := is_tp i
    have e2 : l' = l := Option.some.inj h
    subst e2
    exact ⟨a, xs, rfl, ex_t s.exH e, p⟩
  | _ => cases h
theorem StOk.seq (s : StOk X O F A H σ Γ vs T M) (i : Is X.K X.mg A F v d) (h : sqOf M d = some l) : ∃ a xs, v = .ref a ∧ (SqL X.K H a xs ∨ SqT X.K H a xs) ∧ IsL X.K X.mg A F xs l := by
  unfold sqOf at h
  cases q : lsOf M d with
  | some l' =>
    rw [q] at h
    have e2 : l' = l := Option.some.inj h
    subst e2
    obtain ⟨a, xs, e, h1, p⟩ := s.lst i q
    exact ⟨a, xs, e, .inl h1, p⟩
  | none =>
    rw [q] at h
    obtain ⟨a, xs, e, h1, p⟩ := s.tup i (show tpOf d = some l from h)
    exact ⟨a, xs, e, .inr h1, p⟩
end

/-- a new list, a new tuple -/
theorem post_ls {X : Cx} {O : Org} {F : Hp} {A : List Addr} {H : Hp} {σ : L2.St} {Γ : G} {vs : List V} {T : List D} {M : MM} {K : Kd} {xs : List V} {ds : List D} (s : StOk X O F A H σ Γ vs T M) (p : IsL X.K X.mg A F xs ds) (k : K (.ls ds) M) :
    ∀ q, H q = none → Post X O σ Γ vs T K (.ref q) (upd H q (.lst xs)) := fun q hq =>
  ⟨.ls ds, M, upd F q (.lst xs), A, (s.new hq).push (Is.lsL upd_same (p.mono (Ex.new (fresh_back s.exH hq)) (List.prefix_refl _))), k⟩
theorem post_tp {X : Cx} {O : Org} {F : Hp} {A : List Addr} {H : Hp} {σ : L2.St} {Γ : G} {vs : List V} {T : List D} {M : MM} {K : Kd} {xs : List V} {ds : List D} (s : StOk X O F A H σ Γ vs T M) (p : IsL X.K X.mg A F xs ds) (k : K (.tp ds) M) :
    ∀ q, H q = none → Post X O σ Γ vs T K (.ref q) (upd H q (.tup xs)) := fun q hq =>
  ⟨.tp ds, M, upd F q (.tup xs), A, (s.new hq).push (Is.tpL (st_of upd_same) (p.mono (Ex.new (fresh_back s.exH hq)) (List.prefix_refl _))), k⟩
/-- a new list that may change -/
theorem post_cel {X : Cx} {O : Org} {F : Hp} {A : List Addr} {H : Hp} {σ : L2.St} {Γ : G} {vs : List V} {T : List D} {M : MM} {K : Kd} {xs : List V} {ds : List D} (s : StOk X O F A H σ Γ vs T M) (p : IsL X.K X.mg A F xs ds) (k : K (.cel M.length) (M ++ [.ls ds])) :
    ∀ q, H q = none → Post X O σ Γ vs T K (.ref q) (upd H q (.lst xs)) := fun q hq => by
  have s1 := s.newC (m := .ls ds) hq ⟨fresh_back s.exH hq, xs, upd_same, p⟩
  refine ⟨.cel M.length, M ++ [.ls ds], F, A ++ [q], s1.push (.cel ?_), k⟩
  rw [← s.len, List.getElem?_append_right (Nat.le_refl _), Nat.sub_self]
  rfl
theorem post_c {X : Cx} {O : Org} {F : Hp} {A : List Addr} {H : Hp} {σ : L2.St} {Γ : G} {vs : List V} {T : List D} {M : MM} {K : Kd} {v : V} {d : D} (s : StOk X O F A H σ Γ vs T M) (p : Is X.K X.mg A F v d) (k : K d M) : Post X O σ Γ vs T K v H :=
  ⟨d, M, F, A, s.push p, k⟩

/-! ### lists of related things -/
theorem Paired.app {α β : Type} {R : α → β → Prop} : ∀ {l₁ l₂ : List α} {m₁ m₂ : List β}, Paired R l₁ m₁ → Paired R l₂ m₂ → Paired R (l₁ ++ l₂) (m₁ ++ m₂)
  | _, _, _, _, .nil, s => s
  | _, _, _, _, .cons r t, s => .cons r (Paired.app t s)
theorem Paired.tk {α β : Type} {R : α → β → Prop} : ∀ {l : List α} {m : List β} (n : Nat), Paired R l m → Paired R (l.take n) (m.take n)
  | _, _, 0, _ => by rw [List.take_zero, List.take_zero]; exact .nil
  | _, _, _ + 1, .nil => .nil
  | _, _, n + 1, .cons r t => .cons r (Paired.tk n t)
theorem Paired.dr {α β : Type} {R : α → β → Prop} : ∀ {l : List α} {m : List β} (n : Nat), Paired R l m → Paired R (l.drop n) (m.drop n)
  | _, _, 0, h => h
  | _, _, _ + 1, .nil => .nil
  | _, _, n + 1, .cons _ t => Paired.dr n t
theorem Paired.flat {α β : Type} {R : α → β → Prop} {l : List α} {m : List β} (h : Paired R l m) : ∀ n, Paired R (List.replicate n l).flatten (List.replicate n m).flatten
  | 0 => .nil
  | n + 1 => by
    rw [List.replicate_succ, List.replicate_succ, List.flatten_cons, List.flatten_cons]
    exact Paired.app h (Paired.flat h n)
/-- xs[lo:hi] -/
def cut {α : Type} (xs : List α) (lo hi : Option Int) : List α := (xs.drop (HT.sIx xs.length 0 lo)).take (HT.sIx xs.length xs.length hi - HT.sIx xs.length 0 lo)
theorem IsL.cut {K : PySem.W.Frag} {mg : Str → Option Value} {A : List Addr} {F : Hp} {xs : List V} {ds : List D} (h : IsL K mg A F xs ds) (lo hi : Option Int) : IsL K mg A F (cutV xs lo hi) (L3.cut ds lo hi) := by
  unfold cutV L3.cut
  rw [h.len]
  exact Paired.tk _ (Paired.dr _ h)
theorem len_SS (l : List Nat) : (SS l).length = l.length := by
  show l.toArray.size = l.length
  simp
theorem cps_SS (l : List Nat) : (SS l).cps.toList = l := rfl
theorem cutS_SS (l : List Nat) (lo hi : Option Int) : cutS (SS l) lo hi = SS (L3.cut l lo hi) := by
  unfold cutS L3.cut
  rw [len_SS]
theorem app_SS (a b : List Nat) : SS a ++ SS b = SS (a ++ b) := TL.ext_tl (by rw [TL.tl_append])
theorem SS_inj {a b : List Nat} (h : SS a = SS b) : a = b := by
  have := congrArg (fun s : Str => s.cps.toList) h
  exact this
theorem Asc.app {a b : List Nat} (h : Asc a) (h2 : Asc b) : Asc (a ++ b) := fun c hc => (List.mem_append.mp hc).elim (h c) (h2 c)
theorem Asc.cut {a : List Nat} (h : Asc a) (lo hi : Option Int) : Asc (L3.cut a lo hi) := fun c hc => h c (List.mem_of_mem_drop (List.mem_of_mem_take hc))
theorem Asc.sub {a b : List Nat} (h : Asc b) (q : ∀ c ∈ a, c ∈ b) : Asc a := fun c hc => h c (q c hc)

/-! ### arithmetic -/
def rAddD : DO2 := fun x y M K => match x, y with
  | .int i, .int j => K (.int (i + j)) M
  | .str a, .str b => a.length + b.length ≤ 16777216 ∧ K (.str (a ++ b)) M
  | .tp a, .tp b => a.length + b.length ≤ 16777216 ∧ K (.tp (a ++ b)) M
  | x, y => match lsOwn M x, lsOwn M y with
    | some a, some b => a.length + b.length ≤ 16777216 ∧ K (.ls (a ++ b)) M
    | _, _ => False
def rSubD : DO2 := fun x y M K => match x, y with
  | .int i, .int j => K (.int (i - j)) M
  | _, _ => False
def rMulD : DO2 := fun x y M K => match x, y with
  | .int i, .int j => ((-(2 ^ 64) < i ∧ i < 2 ^ 64) ∨ (-(2 ^ 64) < j ∧ j < 2 ^ 64) ∨ i.natAbs.log2 + j.natAbs.log2 < 1000000) ∧ K (.int (i * j)) M
  | x, .int k => match lsOwn M x with
    | some a => -(2 ^ 63) ≤ k ∧ k < 2 ^ 63 ∧ a.length * k.toNat ≤ 16777216 ∧ K (.ls (List.replicate k.toNat a).flatten) M
    | none => False
  | _, _ => False
def rModD : DO2 := fun x y M K => match x, y with
  | .int i, .int j => 0 < j ∧ K (.int (i % j)) M
  | _, _ => False
def rFdivD : DO2 := fun x y M K => match x, y with
  | .int i, .int j => (0 < j ∧ j < 1073741824) ∧ K (.int (i / j)) M
  | _, _ => False
def rPowD : DO2 := fun x y M K => match x, y with
  | .int i, .int j => (0 ≤ j ∧ j ≤ 1000000 ∧ i.natAbs < 2 ^ 64) ∧ K (.int (i ^ j.toNat)) M
  | _, _ => False
section
variable {X : Cx}
theorem opd_add : OpD X (binaryOp .Add) rAddD := by
  intro O F A H σ Γ vs T M K v1 v2 d1 d2 s i1 i2 h
  have rest : (match lsOwn M d1, lsOwn M d2 with | some a, some b => a.length + b.length ≤ 16777216 ∧ K (.ls (a ++ b)) M | _, _ => False) → bO X (binaryOp .Add) v1 v2 H (Post X O σ Γ vs T K) := by
    intro h
    cases e1 : lsOwn M d1 with
    | none => rw [e1] at h; exact h.elim
    | some a =>
      cases e2 : lsOwn M d2 with
      | none => rw [e1, e2] at h; exact h.elim
      | some b =>
        rw [e1, e2] at h
        obtain ⟨hz, k⟩ := h
        obtain ⟨p, xs, rfl, hp, q1⟩ := s.own i1 e1
        obtain ⟨r, ys, rfl, hr, q2⟩ := s.own i2 e2
        refine bO_of op_cat ⟨p, r, xs, ys, rfl, rfl, hp, hr, ?_, post_ls s (Paired.app q1 q2) k⟩
        rw [q1.len, q2.len, sizeLine_eq]
        exact hz
  cases d1 with
  | int i =>
    cases d2 with
    | int j =>
      rw [is_int i1, is_int i2]
      exact bO_of op_add ⟨i, j, rfl, rfl, post_c s (.int _) h⟩
    | _ => exact rest h
  | str a =>
    cases d2 with
    | str b =>
      obtain ⟨hz, k⟩ := h
      have a1 := is_asc i1
      have a2 := is_asc i2
      rw [is_str i1, is_str i2]
      refine bO_of op_add_str ⟨SS a, SS b, rfl, rfl, ?_, ?_⟩
      · rw [len_SS, len_SS, sizeLine_eq]
        exact hz
      · rw [app_SS]
        exact post_c s (.str _ (a1.app a2)) k
    | _ => exact rest h
  | tp a =>
    cases d2 with
    | tp b =>
      obtain ⟨hz, k⟩ := h
      obtain ⟨p, xs, rfl, hp, q1⟩ := s.tup i1 rfl
      obtain ⟨r, ys, rfl, hr, q2⟩ := s.tup i2 rfl
      refine bO_of op_catA ⟨p, r, xs, ys, rfl, rfl, hp, hr, ?_, fun z => ?_, fun _ z => ?_, fun _ _ => post_tp s (Paired.app q1 q2) k⟩
      · rw [q1.len, q2.len, sizeLine_eq]
        exact hz
      · subst z
        cases q1
        exact post_c s i2 k
      · subst z
        cases q2
        rw [List.append_nil] at k
        exact post_c s i1 k
    | _ => exact rest h
  | _ => exact rest h
theorem opd_sub : OpD X (binaryOp .Sub) rSubD := by
  intro O F A H σ Γ vs T M K v1 v2 d1 d2 s i1 i2 h
  cases d1 with
  | int i =>
    cases d2 with
    | int j =>
      rw [is_int i1, is_int i2]
      exact bO_of op_sub ⟨i, j, rfl, rfl, post_c s (.int _) h⟩
    | _ => exact h.elim
  | _ => exact h.elim
theorem opd_mul : OpD X (binaryOp .Mult) rMulD := by
  intro O F A H σ Γ vs T M K v1 v2 d1 d2 s i1 i2 h
  cases d2 with
  | int j =>
    have rest : (match lsOwn M d1 with | some a => -(2 ^ 63) ≤ j ∧ j < 2 ^ 63 ∧ a.length * j.toNat ≤ 16777216 ∧ K (.ls (List.replicate j.toNat a).flatten) M | none => False) → bO X (binaryOp .Mult) v1 v2 H (Post X O σ Γ vs T K) := by
      intro h
      cases e1 : lsOwn M d1 with
      | none => rw [e1] at h; exact h.elim
      | some a =>
        rw [e1] at h
        obtain ⟨h1, h2, hz, k⟩ := h
        obtain ⟨p, xs, rfl, hp, q1⟩ := s.own i1 e1
        rw [is_int i2]
        refine bO_of op_rep ⟨p, j, xs, rfl, rfl, hp, h1, h2, ?_, post_ls s (Paired.flat q1 _) k⟩
        rw [q1.len, sizeLine_eq]
        exact hz
    cases d1 with
    | int i =>
      obtain ⟨hz, k⟩ := h
      rw [is_int i1, is_int i2]
      rcases hz with hz | hz | hz
      · exact bO_of op_mul ⟨i, j, rfl, rfl, .inl hz, post_c s (.int _) k⟩
      · exact bO_of op_mul ⟨i, j, rfl, rfl, .inr hz, post_c s (.int _) k⟩
      · exact bO_of op_mulW ⟨i, j, rfl, rfl, hz, post_c s (.int _) k⟩
    | _ => exact rest h
  | _ => cases d1 <;> exact h.elim
theorem opd_mod : OpD X (binaryOp .Mod) rModD := by
  intro O F A H σ Γ vs T M K v1 v2 d1 d2 s i1 i2 h
  cases d1 with
  | int i =>
    cases d2 with
    | int j =>
      obtain ⟨hz, k⟩ := h
      rw [is_int i1, is_int i2]
      exact bO_of op_mod ⟨i, j, rfl, rfl, hz, post_c s (.int _) k⟩
    | _ => exact h.elim
  | _ => exact h.elim
theorem opd_fdiv : OpD X (binaryOp .FloorDiv) rFdivD := by
  intro O F A H σ Γ vs T M K v1 v2 d1 d2 s i1 i2 h
  cases d1 with
  | int i =>
    cases d2 with
    | int j =>
      obtain ⟨hz, k⟩ := h
      rw [is_int i1, is_int i2]
      exact bO_of op_fdiv ⟨i, j, rfl, rfl, hz, post_c s (.int _) k⟩
    | _ => exact h.elim
  | _ => exact h.elim
theorem opd_pow : OpD X (binaryOp .Pow) rPowD := by
  intro O F A H σ Γ vs T M K v1 v2 d1 d2 s i1 i2 h
  cases d1 with
  | int i =>
    cases d2 with
    | int j =>
      obtain ⟨hz, k⟩ := h
      rw [is_int i1, is_int i2]
      exact bO_of op_pow ⟨i, j, rfl, rfl, hz, post_c s (.int _) k⟩
    | _ => exact h.elim
  | _ => exact h.elim
end
end L3

namespace L3
open PySem PySem.Spec PyProof.Rows L2 Evl
open Classical

/-! ### equality of data -/
/-- plain data to a depth -/
def Pl : Nat → D → Prop
  | _, .non | _, .bl _ | _, .int _ | _, .str _ => True
  | n + 1, .ls l | n + 1, .tp l => ∀ d ∈ l, Pl n d
  | _, _ => False
/-- True is 1, False is 0 -/
def nrm : Nat → D → D
  | _, .bl b => .int (if b then 1 else 0)
  | n + 1, .ls l => .ls (l.map (nrm n))
  | n + 1, .tp l => .tp (l.map (nrm n))
  | _, d => d
def toP : Nat → D → PyData
  | _, .bl b => .bool b
  | _, .int i => .int i
  | _, .str l => .str (SS l)
  | n + 1, .ls l => .list (l.map (toP n))
  | n + 1, .tp l => .tuple (l.map (toP n))
  | _, _ => .none
theorem pl_non (n : Nat) : Pl n .non = True := by cases n <;> rfl
theorem pl_bl (n : Nat) (b : Bool) : Pl n (.bl b) = True := by cases n <;> rfl
theorem pl_int (n : Nat) (i : Int) : Pl n (.int i) = True := by cases n <;> rfl
theorem pl_str (n : Nat) (l : List Nat) : Pl n (.str l) = True := by cases n <;> rfl
theorem pl_ls (n : Nat) (l : List D) : Pl (n + 1) (.ls l) = ∀ d ∈ l, Pl n d := rfl
theorem pl_tp (n : Nat) (l : List D) : Pl (n + 1) (.tp l) = ∀ d ∈ l, Pl n d := rfl
theorem nrm_non (n : Nat) : nrm n .non = .non := by cases n <;> rfl
theorem nrm_bl (n : Nat) (b : Bool) : nrm n (.bl b) = .int (if b then 1 else 0) := by cases n <;> rfl
theorem nrm_int (n : Nat) (i : Int) : nrm n (.int i) = .int i := by cases n <;> rfl
theorem nrm_str (n : Nat) (l : List Nat) : nrm n (.str l) = .str l := by cases n <;> rfl
theorem nrm_ls (n : Nat) (l : List D) : nrm (n + 1) (.ls l) = .ls (l.map (nrm n)) := rfl
theorem nrm_tp (n : Nat) (l : List D) : nrm (n + 1) (.tp l) = .tp (l.map (nrm n)) := rfl
theorem toP_non (n : Nat) : toP n .non = .none := by cases n <;> rfl
theorem toP_bl (n : Nat) (b : Bool) : toP n (.bl b) = .bool b := by cases n <;> rfl
theorem toP_int (n : Nat) (i : Int) : toP n (.int i) = .int i := by cases n <;> rfl
theorem toP_str (n : Nat) (l : List Nat) : toP n (.str l) = .str (SS l) := by cases n <;> rfl

theorem eqv_nrm : ∀ (n : Nat) (a b : D), Pl n a → Pl n b → (PyData.eqv (toP n a) (toP n b) = true ↔ nrm n a = nrm n b) := by
  have str_eq : ∀ x y : List Nat, (SS x == SS y) = true ↔ x = y := fun x y => by
    rw [beq_iff_eq]
    exact ⟨SS_inj, fun e => by rw [e]⟩
  intro n
  induction n with
  | zero =>
    intro a b ha hb
    cases a <;> cases b <;> first | exact ha.elim | exact hb.elim | (simp [toP, nrm, PyData.eqv]; done) | (simp [toP, nrm, PyData.eqv, str_eq]; done) | (simp [toP, nrm, PyData.eqv]; split <;> split <;> simp_all)
  | succ n ih =>
    have all : ∀ (xs ys : List D), (∀ d ∈ xs, Pl n d) → (∀ d ∈ ys, Pl n d) → (PyData.eqvAll (xs.map (toP n)) (ys.map (toP n)) = true ↔ xs.map (nrm n) = ys.map (nrm n)) := by
      intro xs
      induction xs with
      | nil =>
        intro ys _ _
        cases ys <;> simp [PyData.eqvAll]
      | cons x xs ihx =>
        intro ys h1 h2
        cases ys with
        | nil => simp [PyData.eqvAll]
        | cons y ys =>
          rw [List.map_cons, List.map_cons, List.map_cons, List.map_cons]
          unfold PyData.eqvAll
          rw [Bool.and_eq_true, ih x y (h1 x List.mem_cons_self) (h2 y List.mem_cons_self), ihx ys (fun d hd => h1 d (List.mem_cons_of_mem _ hd)) (fun d hd => h2 d (List.mem_cons_of_mem _ hd)), List.cons.injEq]
    intro a b ha hb
    cases a <;> cases b <;> first
      | exact ha.elim
      | exact hb.elim
      | (simp [toP, nrm, PyData.eqv]; done)
      | (simp [toP, nrm, PyData.eqv, str_eq]; done)
      | (rename_i l m; simp only [toP, nrm, PyData.eqv, D.ls.injEq]; exact all l m ha hb)
      | (rename_i l m; simp only [toP, nrm, PyData.eqv, D.tp.injEq]; exact all l m ha hb)
      | (simp [toP, nrm, PyData.eqv]; split <;> split <;> simp_all)

theorem asc_ok {l : List Nat} (h : Asc l) : PyData.strOk (SS l) = true := by
  unfold PyData.strOk
  rw [← Array.all_toList]
  exact List.all_eq_true.mpr fun c hc => decide_eq_true (Nat.lt_trans (h c hc) (by decide))
section
variable {K : PySem.W.Frag} {mg : Str → Option Value} {A : List Addr} {F H : Hp}
theorem dp_of (ex : Ex F H) : ∀ (n : Nat) (v : V) (d : D), Pl n d → Is K mg A F v d → Dp K H v (toP n d) ∧ (toP n d).canLay0 = true ∧ (toP n d).depth ≤ n := by
  have base : ∀ (n : Nat) (v : V) (d : D), (∃ b, d = .bl b) ∨ (∃ i, d = .int i) ∨ (∃ l, d = .str l) ∨ d = .non → Is K mg A F v d → Dp K H v (toP n d) ∧ (toP n d).canLay0 = true ∧ (toP n d).depth ≤ n := by
    intro n v d h i
    rcases h with ⟨b, rfl⟩ | ⟨b, rfl⟩ | ⟨b, rfl⟩ | rfl
    · rw [is_bl i, toP_bl]
      exact ⟨.bl b, by simp [PyData.canLay0], by simp [PyData.depth]⟩
    · rw [is_int i, toP_int]
      exact ⟨.int b, by simp [PyData.canLay0], by simp [PyData.depth]⟩
    · have ha := is_asc i
      rw [is_str i, toP_str]
      exact ⟨.str _, by simp [PyData.canLay0, asc_ok ha], by simp [PyData.depth]⟩
    · rw [is_non i, toP_non]
      exact ⟨.non, by simp [PyData.canLay0], by simp [PyData.depth]⟩
  intro n
  induction n with
  | zero =>
    intro v d hp i
    cases d with
    | bl b => exact base 0 v _ (.inl ⟨b, rfl⟩) i
    | int b => exact base 0 v _ (.inr (.inl ⟨b, rfl⟩)) i
    | str b => exact base 0 v _ (.inr (.inr (.inl ⟨b, rfl⟩))) i
    | non => exact base 0 v _ (.inr (.inr (.inr rfl))) i
    | _ => exact hp.elim
  | succ n ih =>
    have all : ∀ (xs : List V) (ds : List D), (∀ d ∈ ds, Pl n d) → IsL K mg A F xs ds → DpAll K H xs (ds.map (toP n)) ∧ PyData.canLayAll0 (ds.map (toP n)) = true ∧ PyData.depthAll (ds.map (toP n)) ≤ n := by
      intro xs ds hp h
      induction h with
      | nil => exact ⟨.nil, by simp [PyData.canLayAll0], by simp [PyData.depthAll]⟩
      | @cons x d xs ds r t ih2 =>
        obtain ⟨h1, h2, h3⟩ := ih x d (hp d List.mem_cons_self) r
        obtain ⟨g1, g2, g3⟩ := ih2 fun d hd => hp d (List.mem_cons_of_mem _ hd)
        refine ⟨.cons h1 g1, by simp [PyData.canLayAll0, h2, g2], ?_⟩
        rw [List.map_cons]
        unfold PyData.depthAll
        omega
    intro v d hp i
    cases d with
    | bl b => exact base _ v _ (.inl ⟨b, rfl⟩) i
    | int b => exact base _ v _ (.inr (.inl ⟨b, rfl⟩)) i
    | str b => exact base _ v _ (.inr (.inr (.inl ⟨b, rfl⟩))) i
    | non => exact base _ v _ (.inr (.inr (.inr rfl))) i
    | ls l =>
      obtain ⟨a, xs, rfl, e, p⟩ := is_ls i
      obtain ⟨h1, h2, h3⟩ := all xs l hp p
      refine ⟨.lst (sq_of (ex _ _ e)) h1, by simpa [toP, PyData.canLay0] using h2, ?_⟩
      show (PyData.list (l.map (toP n))).depth ≤ n + 1
      unfold PyData.depth
      omega
    | tp l =>
      obtain ⟨a, xs, rfl, e, p⟩ := is_tp i
      obtain ⟨h1, h2, h3⟩ := all xs l hp p
      refine ⟨.tup (ex_t ex e) h1, by simpa [toP, PyData.canLay0] using h2, ?_⟩
      show (PyData.tuple (l.map (toP n))).depth ≤ n + 1
      unfold PyData.depth
      omega
    | _ => exact hp.elim
end

/-- a changing list as the plain list that it is now -/
def view (M : MM) : D → D
  | .cel k => match M[k]? with
    | some (.ls l) => .ls l
    | _ => .cel k
  | d => d
/-- x == y -/
def eqD (M : MM) (x y : D) : Prop := nrm 9 (view M x) = nrm 9 (view M y)
def rEqD' (neg : Bool) : DO2 := fun x y M K => Pl 9 (view M x) ∧ Pl 9 (view M y) ∧ K (.bl (if neg then !decide (eqD M x y) else decide (eqD M x y))) M
section
variable {X : Cx} {O : Org} {F : Hp} {A : List Addr} {H : Hp} {σ : L2.St} {Γ : G} {vs : List V} {T : List D} {M : MM}
theorem StOk.dp (s : StOk X O F A H σ Γ vs T M) {v : V} {d : D} (i : Is X.K X.mg A F v d) (hp : Pl 9 (view M d)) : Dp X.K H v (toP 9 (view M d)) ∧ SeqAt.shaped (toP 9 (view M d)) = true := by
  have fin : ∀ {F' : Hp} {e : D}, Ex F' H → Is X.K X.mg A F' v e → Pl 9 e → Dp X.K H v (toP 9 e) ∧ SeqAt.shaped (toP 9 e) = true := by
    intro F' e ex i hp
    obtain ⟨h1, h2, h3⟩ := dp_of ex 9 v e hp i
    refine ⟨h1, ?_⟩
    unfold SeqAt.shaped
    rw [h2, decide_eq_true (show (toP 9 e).depth ≤ 64 by omega)]
    rfl
  cases d with
  | cel k =>
    have hv : view M (.cel k) = (match M[k]? with | some (.ls l) => .ls l | _ => .cel k) := rfl
    cases q : M[k]? with
    | none =>
      rw [hv, q] at hp
      exact hp.elim
    | some m =>
      cases m with
      | ls l =>
        have e : view M (.cel k) = .ls l := by rw [hv, q]
        rw [e] at hp ⊢
        obtain ⟨a, xs, rfl, e3, p⟩ := s.own i (l := l) (show (match M[k]? with | some (.ls l) => some l | _ => none) = some l by rw [q])
        obtain ⟨n, hn⟩ : ∃ n, n = 8 := ⟨8, rfl⟩
        exact fin (F' := upd F a (.lst xs)) (fun b o hb => by
          by_cases z : b = a
          · subst z
            rw [upd_same] at hb
            rw [← hb]
            exact e3
          · rw [upd_ne z] at hb
            exact s.exH b o hb) (Is.lsL upd_same (p.mono (fun b o hb => by
          by_cases z : b = a
          · subst z
            have := s.exH b o hb
            rw [e3] at this
            rw [upd_same, this]
          · rw [upd_ne z]
            exact hb) (List.prefix_refl _))) hp
      | _ =>
        rw [hv, q] at hp
        exact hp.elim
  | _ => exact fin s.exH i hp
theorem opd_eqG (hu : X.A.units + 64 < cLine) : OpD X (compareOp .Eq) (rEqD' false) := by
  intro O F A H σ Γ vs T M K v1 v2 d1 d2 s i1 i2 h
  obtain ⟨p1, p2, k⟩ := h
  obtain ⟨h1, s1⟩ := s.dp i1 p1
  obtain ⟨h2, s2⟩ := s.dp i2 p2
  refine bO_of (op_eqD hu) ⟨_, _, h1, h2, s1, s2, ?_⟩
  have e : PyData.eqv (toP 9 (view M d1)) (toP 9 (view M d2)) = decide (eqD M d1 d2) := by
    rw [Bool.eq_iff_iff, eqv_nrm 9 _ _ p1 p2, decide_eq_true_eq]
    exact Iff.rfl
  rw [e]
  exact post_c s (.bl _) k
theorem opd_neG (hu : X.A.units + 64 < cLine) : OpD X (compareOp .NotEq) (rEqD' true) := by
  intro O F A H σ Γ vs T M K v1 v2 d1 d2 s i1 i2 h
  obtain ⟨p1, p2, k⟩ := h
  obtain ⟨h1, s1⟩ := s.dp i1 p1
  obtain ⟨h2, s2⟩ := s.dp i2 p2
  refine bO_of (op_neD hu) ⟨_, _, h1, h2, s1, s2, ?_⟩
  have e : PyData.eqv (toP 9 (view M d1)) (toP 9 (view M d2)) = decide (eqD M d1 d2) := by
    rw [Bool.eq_iff_iff, eqv_nrm 9 _ _ p1 p2, decide_eq_true_eq]
    exact Iff.rfl
  rw [e]
  exact post_c s (.bl _) k
end
end L3

namespace L3
open PySem PySem.Spec PyProof.Rows L2 Evl
open Classical

/-! ### order -/
def rOrdD (fi : Int → Int → Bool) (fs : List Nat → List Nat → Bool) : DO2 := fun x y M K => match x, y with
  | .int i, .int j => K (.bl (fi i j)) M
  | .str a, .str b => K (.bl (fs a b)) M
  | _, _ => False
abbrev rLtD : DO2 := rOrdD (fun i j => decide (i < j)) fun a b => decide (a < b)
abbrev rLeD : DO2 := rOrdD (fun i j => decide (i ≤ j)) fun a b => !decide (b < a)
abbrev rGtD : DO2 := rOrdD (fun i j => decide (j < i)) fun a b => decide (b < a)
abbrev rGeD : DO2 := rOrdD (fun i j => decide (j ≤ i)) fun a b => !decide (a < b)
section
variable {X : Cx}
theorem opd_ord {op : CmpOp} {fi : Int → Int → Bool} {fs : List Nat → List Nat → Bool} (h1 : OpR X (compareOp op) (rI0 fun i j => .bl (fi i j))) (h2 : OpR X (compareOp op) (fun x y H Q => ∃ i j, x = .str i ∧ y = .str j ∧ Q (.bl (fs i.cps.toList j.cps.toList)) H)) :
    OpD X (compareOp op) (rOrdD fi fs) := by
  intro O F A H σ Γ vs T M K v1 v2 d1 d2 s i1 i2 h
  cases d1 with
  | int i =>
    cases d2 with
    | int j =>
      rw [is_int i1, is_int i2]
      exact bO_of h1 ⟨i, j, rfl, rfl, post_c s (.bl _) h⟩
    | _ => exact h.elim
  | str i =>
    cases d2 with
    | str j =>
      rw [is_str i1, is_str i2]
      exact bO_of h2 ⟨SS i, SS j, rfl, rfl, post_c s (.bl _) h⟩
    | _ => exact h.elim
  | _ => exact h.elim
theorem opd_lt : OpD X (compareOp .Lt) rLtD := opd_ord op_lt fun pins s σ H x y v u Q I r1 r2 ⟨i, j, a, b, q⟩ => op_lt_str pins s σ H x y v u Q I r1 r2 ⟨i, j, a, b, q⟩
theorem opd_le : OpD X (compareOp .LtE) rLeD := opd_ord op_le fun pins s σ H x y v u Q I r1 r2 ⟨i, j, a, b, q⟩ => op_le_str pins s σ H x y v u Q I r1 r2 ⟨i, j, a, b, q⟩
theorem opd_gt : OpD X (compareOp .Gt) rGtD := opd_ord op_gt fun pins s σ H x y v u Q I r1 r2 ⟨i, j, a, b, q⟩ => op_gt_str pins s σ H x y v u Q I r1 r2 ⟨i, j, a, b, q⟩
theorem opd_ge : OpD X (compareOp .GtE) rGeD := opd_ord op_ge fun pins s σ H x y v u Q I r1 r2 ⟨i, j, a, b, q⟩ => op_ge_str pins s σ H x y v u Q I r1 r2 ⟨i, j, a, b, q⟩
end

/-! ### is None -/
def isNon : D → Bool
  | .non => true
  | _ => false
theorem isNon_of {K : PySem.W.Frag} {mg : Str → Option Value} {A : List Addr} {F : Hp} {v : V} {d : D} (h : Is K mg A F v d) : decide (v = .non) = isNon d := by
  cases h <;> simp [isNon]
def rIsN' (neg : Bool) : DO2 := fun x y M K => y = .non ∧ K (.bl (if neg then !isNon x else isNon x)) M
section
variable {X : Cx}
theorem opd_isN : OpD X (compareOp .Is) (rIsN' false) := by
  intro O F A H σ Γ vs T M K v1 v2 d1 d2 s i1 i2 h
  obtain ⟨rfl, k⟩ := h
  rw [is_non i2]
  exact bO_of op_isN ⟨rfl, by rw [isNon_of i1]; exact post_c s (.bl _) k⟩
theorem opd_notN : OpD X (compareOp .IsNot) (rIsN' true) := by
  intro O F A H σ Γ vs T M K v1 v2 d1 d2 s i1 i2 h
  obtain ⟨rfl, k⟩ := h
  rw [is_non i2]
  exact bO_of op_notN ⟨rfl, by rw [isNon_of i1]; exact post_c s (.bl _) k⟩
end

/-! ### in -/
def flatD : D → Prop
  | .non | .bl _ | .int _ | .str _ => True
  | _ => False
/-- a in b, texts -/
def inS (a b : List Nat) : Bool := match a with
  | [c] => decide (c ∈ b)
  | a => !(Builtin.Str.occurrences (SS b) (SS a) 0 b.length 1).isEmpty
def rInD (neg : Bool) : DO2 := fun x y M K => match x, y with
  | .str a, .str b => K (.bl (if neg then !inS a b else inS a b)) M
  | x, y => match sqOf M y with
    | some l => flatD x ∧ (∀ d ∈ l, flatD d) ∧ K (.bl (if neg then !decide (nrm 0 x ∈ l.map (nrm 0)) else decide (nrm 0 x ∈ l.map (nrm 0)))) M
    | none => False
section
variable {K : PySem.W.Frag} {mg : Str → Option Value} {A : List Addr} {F : Hp}
theorem flat_of {v : V} {d : D} (h : Is K mg A F v d) (f : flatD d) : flatV v = true := by
  cases h <;> first | rfl | exact f.elim
theorem flats_of : ∀ {vs : List V} {ds : List D}, IsL K mg A F vs ds → (∀ d ∈ ds, flatD d) → vs.all flatV = true
  | _, _, .nil, _ => rfl
  | _, _, .cons r t, f => by
    rw [List.all_cons, flat_of r (f _ List.mem_cons_self), flats_of t fun d hd => f d (List.mem_cons_of_mem _ hd)]
    rfl
theorem eqV_of {v w : V} {d e : D} (h : Is K mg A F v d) (g : Is K mg A F w e) (f : flatD d) (f' : flatD e) : eqV v w = decide (nrm 0 d = nrm 0 e) := by
  have se : ∀ x y : List Nat, (SS x == SS y) = decide (x = y) := fun x y => by
    rw [Bool.eq_iff_iff, beq_iff_eq, decide_eq_true_eq]
    exact ⟨SS_inj, fun e => by rw [e]⟩
  cases d with
  | non => rw [is_non h]; cases e with
    | non => rw [is_non g]; simp [eqV, nrm]
    | bl b => rw [is_bl g]; simp [eqV, nrm]
    | int b => rw [is_int g]; simp [eqV, nrm]
    | str b => rw [is_str g]; simp [eqV, nrm]
    | _ => exact f'.elim
  | bl a => rw [is_bl h]; cases e with
    | non => rw [is_non g]; simp [eqV, nrm]
    | bl b => rw [is_bl g]; cases a <;> cases b <;> simp [eqV, nrm]
    | int b => rw [is_int g]; simp only [eqV, nrm, D.int.injEq]; cases a <;> (rw [Bool.eq_iff_iff]; simp)
    | str b => rw [is_str g]; simp [eqV, nrm]
    | _ => exact f'.elim
  | int a => rw [is_int h]; cases e with
    | non => rw [is_non g]; simp [eqV, nrm]
    | bl b => rw [is_bl g]; simp only [eqV, nrm, D.int.injEq]; cases b <;> (rw [Bool.eq_iff_iff]; simp)
    | int b => rw [is_int g]; simp only [eqV, nrm, D.int.injEq]; rw [Bool.eq_iff_iff]; simp
    | str b => rw [is_str g]; simp [eqV, nrm]
    | _ => exact f'.elim
  | str a => rw [is_str h]; cases e with
    | non => rw [is_non g]; simp [eqV, nrm]
    | bl b => rw [is_bl g]; simp [eqV, nrm]
    | int b => rw [is_int g]; simp [eqV, nrm]
    | str b => rw [is_str g]; simp only [eqV, nrm, D.str.injEq]; exact se a b
    | _ => exact f'.elim
  | _ => exact f.elim
theorem inV_of {w : V} {e : D} (g : Is K mg A F w e) (f' : flatD e) : ∀ {vs : List V} {ds : List D}, IsL K mg A F vs ds → (∀ d ∈ ds, flatD d) → inV w vs = decide (nrm 0 e ∈ ds.map (nrm 0))
  | _, _, .nil, _ => by simp [inV]
  | _, _, .cons (a := v) (b := d) r t, f => by
    have ih := inV_of g f' t fun d hd => f d (List.mem_cons_of_mem _ hd)
    unfold inV at ih ⊢
    rw [List.any_cons, ih, eqV_of r g (f _ List.mem_cons_self) f', Bool.eq_iff_iff, Bool.or_eq_true, decide_eq_true_eq, decide_eq_true_eq, decide_eq_true_eq, List.map_cons, List.mem_cons]
    exact ⟨fun h => h.imp_left Eq.symm, fun h => h.imp_left Eq.symm⟩
end
section
variable {X : Cx}
theorem inS_one (c : Nat) (b : List Nat) : inS [c] b = decide (c ∈ b) := rfl
theorem opd_in : OpD X (compareOp .In) (rInD false) := by
  intro O F A H σ Γ vs T M K v1 v2 d1 d2 s i1 i2 h
  have rest : (match sqOf M d2 with | some l => flatD d1 ∧ (∀ d ∈ l, flatD d) ∧ K (.bl (decide (nrm 0 d1 ∈ l.map (nrm 0)))) M | none => False) → bO X (compareOp .In) v1 v2 H (Post X O σ Γ vs T K) := by
    intro h
    cases e : sqOf M d2 with
    | none => rw [e] at h; exact h.elim
    | some l =>
      rw [e] at h
      obtain ⟨f1, f2, k⟩ := h
      obtain ⟨a, xs, rfl, hq, p⟩ := s.seq i2 e
      refine bO_of op_in_seq ⟨a, xs, rfl, hq, flat_of i1 f1, flats_of p f2, ?_⟩
      show Post X O σ Γ vs T K (.bl (inV v1 xs)) H
      rw [inV_of i1 f1 p f2]
      exact post_c s (.bl _) k
  cases d1 with
  | str a =>
    cases d2 with
    | str b =>
      have h : K (.bl (inS a b)) M := h
      rw [is_str i1, is_str i2]
      have go : bO X (compareOp .In) (.str (SS a)) (.str (SS b)) H (Post X O σ Γ vs T K) := by
        cases a with
        | nil =>
          refine bO_of op_in_str ⟨SS [], SS b, rfl, rfl, ?_⟩
          rw [len_SS]
          exact post_c s (.bl _) h
        | cons c r =>
          cases r with
          | nil => exact bO_of op_in_sign ⟨c, SS b, rfl, rfl, by rw [cps_SS]; refine post_c s (.bl _) ?_; exact h⟩
          | cons c2 r2 =>
            refine bO_of op_in_str ⟨SS (c :: c2 :: r2), SS b, rfl, rfl, ?_⟩
            rw [len_SS]
            exact post_c s (.bl _) h
      exact go
    | _ => exact rest h
  | _ => exact rest h
theorem opd_notIn : OpD X (compareOp .NotIn) (rInD true) := by
  intro O F A H σ Γ vs T M K v1 v2 d1 d2 s i1 i2 h
  have rest : (match sqOf M d2 with | some l => flatD d1 ∧ (∀ d ∈ l, flatD d) ∧ K (.bl (!decide (nrm 0 d1 ∈ l.map (nrm 0)))) M | none => False) → bO X (compareOp .NotIn) v1 v2 H (Post X O σ Γ vs T K) := by
    intro h
    cases e : sqOf M d2 with
    | none => rw [e] at h; exact h.elim
    | some l =>
      rw [e] at h
      obtain ⟨f1, f2, k⟩ := h
      obtain ⟨a, xs, rfl, hq, p⟩ := s.seq i2 e
      refine bO_of op_notIn_seq ⟨a, xs, rfl, hq, flat_of i1 f1, flats_of p f2, ?_⟩
      show Post X O σ Γ vs T K (.bl (!inV v1 xs)) H
      rw [inV_of i1 f1 p f2]
      exact post_c s (.bl _) k
  cases d1 with
  | str a =>
    cases d2 with
    | str b =>
      have h : K (.bl (!inS a b)) M := h
      rw [is_str i1, is_str i2]
      have go : bO X (compareOp .NotIn) (.str (SS a)) (.str (SS b)) H (Post X O σ Γ vs T K) := by
        cases a with
        | nil =>
          refine bO_of op_notIn_str ⟨SS [], SS b, rfl, rfl, ?_⟩
          rw [len_SS]
          exact post_c s (.bl _) h
        | cons c r =>
          cases r with
          | nil => exact bO_of op_notIn_sign ⟨c, SS b, rfl, rfl, by rw [cps_SS]; refine post_c s (.bl _) ?_; exact h⟩
          | cons c2 r2 =>
            refine bO_of op_notIn_str ⟨SS (c :: c2 :: r2), SS b, rfl, rfl, ?_⟩
            rw [len_SS]
            exact post_c s (.bl _) h
      exact go
    | _ => exact rest h
  | _ => exact rest h
end

/-! ### subscripts -/
def bI (X : Cx) : R2 := fun x y H Q => ∀ (value slice : Expr) pins s σ v u, Inv X pins σ H s → RelV x v → RelV y u → subscripted slice false v u = operate [v, u] (getItem v u) → wpAny (model X.prog X.w) X.A (subscriptTail value slice v u) (EP X pins σ Q) X.xe s
theorem bI_ok {X : Cx} : IxR X (bI X) := fun value slice pins s σ _ _ _ v u _ I r1 r2 h hs => h value slice pins s σ v u I r1 r2 hs
theorem bI_of {X : Cx} {r : R2} {x y : V} {H : Hp} {Q : VK} (h : IxR X r) (q : r x y H Q) : bI X x y H Q := fun value slice pins s σ v u I r1 r2 hs => h value slice pins s σ H x y v u Q I r1 r2 q hs
def rIxD : DO2 := fun x y M K => match y with
  | .int i => (match x with
    | .str a => a.length ≤ 16777216 ∧ ∃ c, atI a i = some c ∧ K (.str [c]) M
    | x => match sqOf M x with
      | some l => ∃ d, atI l i = some d ∧ K d M
      | none => False)
  | _ => False
theorem atI_of {K : PySem.W.Frag} {mg : Str → Option Value} {A : List Addr} {F : Hp} {xs : List V} {ds : List D} (p : IsL K mg A F xs ds) {i : Int} {d : D} (h : atI ds i = some d) : ∃ v, atI xs i = some v ∧ Is K mg A F v d := by
  unfold atI at h ⊢
  rw [p.len]
  cases e : ixN ds.length i with
  | none => rw [e] at h; cases h
  | some j =>
    rw [e] at h
    exact p.some (show ds[j]? = some d from h)
theorem atI_mem {α : Type} {l : List α} {i : Int} {c : α} (h : atI l i = some c) : c ∈ l := by
  unfold atI at h
  cases e : ixN l.length i with
  | none => rw [e] at h; cases h
  | some j =>
    rw [e] at h
    exact List.mem_of_getElem? (show l[j]? = some c from h)
section
variable {X : Cx} {a b e : Expr} {ta tb te : DE} {pos p2 : Pos}
theorem se_ix (sa : SE X a ta) (sb : SE X b tb) (hs : PlainIx b := by exact fun _ _ => rfl) : SE X (.Subscript a b pos) (dOp rIxD ta tb) := by
  intro W tk O F A H σ Γ vs T M K R s lf h
  refine bE_of (pe_ix bI_ok bE_ok bE_ok hs) ?_
  refine two sa sb tk s lf h fun v1 v2 d1 d2 M2 F2 A2 H2 s i1 i2 k => ?_
  cases d2 with
  | int i =>
    rw [is_int i2]
    have rest : (match sqOf M2 d1 with | some l => ∃ d, atI l i = some d ∧ K d M2 | none => False) → bI X v1 (.int i) H2 (Post X O σ Γ vs T K) := by
      intro h
      cases e : sqOf M2 d1 with
      | none => rw [e] at h; exact h.elim
      | some l =>
        rw [e] at h
        obtain ⟨d, hd, k⟩ := h
        obtain ⟨p, xs, rfl, hq, q⟩ := s.seq i1 e
        obtain ⟨v, hv, iv⟩ := atI_of q hd
        rcases hq with hq | hq
        · exact bI_of ix_list ⟨p, xs, i, v, rfl, rfl, hq, hv, post_c s iv k⟩
        · exact bI_of ix_tup ⟨p, xs, i, v, rfl, rfl, hq, hv, post_c s iv k⟩
    cases d1 with
    | str l =>
      obtain ⟨hz, c, hc, k⟩ := k
      have ha := is_asc i1
      rw [is_str i1]
      exact bI_of ix_str ⟨SS l, i, c, rfl, rfl, by rw [len_SS, sizeLine_eq]; exact hz, hc, post_c s (.str [c] fun x hx => by
        have e : x = c := by simpa using hx
        rw [e]
        exact ha c (atI_mem hc)) k⟩
    | _ => exact rest k
  | _ => exact k.elim

end
/-- slices -/
def bSl (X : Cx) : V → Option Int → Option Int → Hp → VK → Prop := fun x lo hi H Q => ∃ r, SlR X r ∧ r x lo hi H Q
theorem bSl_ok {X : Cx} : SlR X (bSl X) := by
  intro pins s σ H x v vl vu lo hi sl Q I rx hs pl pu h
  obtain ⟨r, hr, q⟩ := h
  exact hr pins s σ H x v vl vu lo hi sl Q I rx hs pl pu q
abbrev DP := G → MM → (Option Int → MM → Prop) → Rx → Prop
def PostO (X : Cx) (O : Org) (σ : L2.St) (Γ : G) (vs : List V) (T : List D) (K : Option Int → MM → Prop) : Option Int → Hp → Prop := fun b H' => ∃ M' F' A', StOk X O F' A' H' σ Γ vs T M' ∧ K b M'
structure BP (X : Cx) (e : Option Expr) (σ : L2.St) (H : Hp) (Q : Option Int → Hp → Prop) : Prop where
  go : ∀ pins s, Inv X pins σ H s → wpAny (model X.prog X.w) X.A (evalPart e X.env) (fun u s' => ∃ o H', Inv X pins σ H' s' ∧ IsPart u o ∧ Q o H') X.xe s
abbrev bP (X : Cx) (e : Option Expr) : TO := fun σ H Q => BP X e σ H Q
theorem bP_ok {X : Cx} {e : Option Expr} : PO X e (bP X e) := ⟨fun pins s _ _ _ I h => h.go pins s I⟩
theorem bP_of {X : Cx} {e : Option Expr} {t : TO} {σ : L2.St} {H : Hp} {Q : Option Int → Hp → Prop} (h : PO X e t) (q : t σ H Q) : bP X e σ H Q := ⟨fun pins s I => h.run pins s σ H Q I q⟩
theorem bP_mono {X : Cx} {e : Option Expr} {σ : L2.St} {H : Hp} {Q Q' : Option Int → Hp → Prop} (h : bP X e σ H Q) (q : ∀ v H', Q v H' → Q' v H') : bP X e σ H Q' := ⟨fun pins s I =>
  thn (h.go pins s I) fun _ _ ⟨v, H', I', r, z⟩ => ⟨v, H', I', r, q v H' z⟩⟩
/-- a part of a slice -/
def SP3 (X : Cx) (e : Option Expr) (t : DP) : Prop := ∀ (W : WX), Takes X W → ∀ O F A H σ Γ vs T M K R, StOk X O F A H σ Γ vs T M → Lift X W O vs T R → t Γ M K R → bP X e σ H (PostO X O σ Γ vs T K)
def dNo : DP := fun _ M K _ => K none M
def dPart (t : DE) : DP := fun Γ M K R => t Γ M (fun d M1 => match d with
  | .int i => K (some i) M1
  | _ => False) R
def rSlD : D → Option Int → Option Int → MM → Kd → Prop := fun x lo hi M K => match x with
  | .str a => a.length ≤ 16777216 ∧ K (.str (cut a lo hi)) M
  | .tp a => K (.tp (cut a lo hi)) M
  | x => match lsOf M x with
    | some a => K (.ls (cut a lo hi)) M
    | none => False
def dSl (te : DE) (tl th : DP) : DE := fun Γ M K R => te Γ M (fun d M1 => tl Γ M1 (fun l M2 => th Γ M2 (fun h M3 => rSlD d l h M3 K) R) R) R
section
variable {X : Cx} {a b e : Expr} {ta tb te : DE} {tl th : DP} {lo hi : Option Expr} {pos p2 : Pos}
theorem so_no : SP3 X none dNo := fun W tk O F A H σ Γ vs T M K R s lf k => bP_of po_none ⟨M, F, A, s, k⟩
theorem so_some (sa : SE X a ta) : SP3 X (some a) (dPart ta) := fun W tk O F A H σ Γ vs T M K R s lf h => bP_of (po_some bE_ok)
  (bE_mono (sa W tk O F A H σ Γ vs T M _ R s lf h) fun v H1 ⟨d, M1, F1, A1, s1, k⟩ => by
    cases d with
    | int i => exact ⟨i, is_int s1.top, M1, F1, A1, s1.pop, k⟩
    | _ => exact k.elim)
theorem cut_whole {α : Type} (xs : List α) (lo hi : Option Int) (h : HT.sIx xs.length 0 lo = 0 ∧ HT.sIx xs.length xs.length hi = xs.length) : L3.cut xs lo hi = xs := by
  unfold L3.cut
  rw [h.1, h.2, List.drop_zero, Nat.sub_zero, List.take_length]
theorem se_slice (sa : SE X e te) (sl : SP3 X lo tl) (sh : SP3 X hi th) : SE X (.Subscript e (.Slice lo hi none p2) pos) (dSl te tl th) := by
  intro W tk O F A H σ Γ vs T M K R s lf h
  refine bE_of (pe_slice bSl_ok bE_ok bP_ok bP_ok) ?_
  refine bE_mono (sa W tk O F A H σ Γ vs T M _ R s lf h) fun v H1 ⟨d, M1, F1, A1, s1, k1⟩ => ?_
  refine bP_mono (sl W tk O F1 A1 H1 σ Γ (v :: vs) (d :: T) M1 _ R s1 lf.pop k1) fun l H2 ⟨M2, F2, A2, s2, k2⟩ => ?_
  refine bP_mono (sh W tk O F2 A2 H2 σ Γ (v :: vs) (d :: T) M2 _ R s2 lf.pop k2) fun u H3 ⟨M3, F3, A3, s3, k3⟩ => ?_
  have i1 := s3.top
  have s := s3.pop
  have rest : (match lsOf M3 d with | some a => K (.ls (L3.cut a l u)) M3 | none => False) → bSl X v l u H3 (Post X O σ Γ vs T K) := by
    intro h
    cases e : lsOf M3 d with
    | none => rw [e] at h; exact h.elim
    | some a =>
      rw [e] at h
      obtain ⟨p, xs, rfl, hp, q⟩ := s.lst i1 e
      exact ⟨_, sl_list, p, xs, rfl, hp, post_ls s (q.cut l u) h⟩
  cases d with
  | str a =>
    obtain ⟨hz, k⟩ := k3
    have ha := is_asc i1
    rw [is_str i1]
    refine ⟨_, sl_str, SS a, rfl, by rw [len_SS, sizeLine_eq]; exact hz, ?_⟩
    rw [cutS_SS]
    exact post_c s (.str _ (ha.cut l u)) k
  | tp a =>
    obtain ⟨p, xs, rfl, hp, q⟩ := s.tup i1 rfl
    refine ⟨_, sl_tupA, p, xs, rfl, hp, fun z => ?_, fun _ => post_tp s (q.cut l u) k3⟩
    have k3 : K (.tp (L3.cut a l u)) M3 := k3
    rw [q.len] at z
    rw [cut_whole a l u z] at k3
    exact post_c s i1 k3
  | _ => exact rest k3
end
end L3

namespace L3
open PySem PySem.Spec PyProof.Rows L2 Evl
open Classical

/-! ### argument lists, displays -/
def aNil : DA := fun _ M K _ => K [] M
def aCons (t : DE) (u : DA) : DA := fun Γ M K R => t Γ M (fun d M1 => u Γ M1 (fun ds M2 => K (d :: ds) M2) R) R
def dTup (t : DA) : DE := fun Γ M K R => t Γ M (fun ds M1 => ds.length ≤ 16777216 ∧ K (.tp ds) M1) R
def dLst (t : DA) : DE := fun Γ M K R => t Γ M (fun ds M1 => ds.length ≤ 16777216 ∧ K (.ls ds) M1) R
/-- .. that may change -/
def dLstC (t : DA) : DE := fun Γ M K R => t Γ M (fun ds M1 => ds.length ≤ 16777216 ∧ K (.cel M1.length) (M1 ++ [.ls ds])) R
section
variable {X : Cx} {a b c e : Expr} {es : List Expr} {ta tb te : DE} {tc : DT} {t : DA} {pos : Pos} {j : Nat}
theorem sa_nil : SA X [] aNil := fun W tk O F A H σ Γ vs T M K R s lf k => bA_of pa_nil ⟨[], M, F, A, s, .nil, k⟩
theorem sa_cons (sa : SE X e te) (sr : SA X es t) (hs : starEach (e :: es) X.env = (false, eval e X.env) :: starEach es X.env := by rfl) : SA X (e :: es) (aCons te t) := fun W tk O F A H σ Γ vs T M K R s lf h =>
  bA_of (pa_cons bE_ok bA_ok hs) (bE_mono (sa W tk O F A H σ Γ vs T M _ R s lf h) fun v H1 ⟨d, M1, F1, A1, s1, k1⟩ =>
    bA_mono (sr W tk O F1 A1 H1 σ Γ (v :: vs) (d :: T) M1 _ R s1 lf.pop k1) fun ws H2 ⟨ds, M2, F2, A2, s2, p, k2⟩ => ⟨d :: ds, M2, F2, A2, s2.pop, .cons s2.top p, k2⟩)
theorem se_tup (sa : SA X es t) : SE X (.Tuple es j pos) (dTup t) := fun W tk O F A H σ Γ vs T M K R s lf h =>
  bE_of (pe_tup bA_ok) (bA_mono (sa W tk O F A H σ Γ vs T M _ R s lf h) fun ws H1 ⟨ds, M1, F1, A1, s1, p, hz, k⟩ => ⟨by rw [p.len, sizeLine_eq]; exact hz, post_tp s1 p k⟩)
theorem se_lst (sa : SA X es t) : SE X (.List es pos) (dLst t) := fun W tk O F A H σ Γ vs T M K R s lf h =>
  bE_of (pe_lst bA_ok) (bA_mono (sa W tk O F A H σ Γ vs T M _ R s lf h) fun ws H1 ⟨ds, M1, F1, A1, s1, p, hz, k⟩ => ⟨by rw [p.len, sizeLine_eq]; exact hz, post_ls s1 p k⟩)
theorem se_lstC (sa : SA X es t) : SE X (.List es pos) (dLstC t) := fun W tk O F A H σ Γ vs T M K R s lf h =>
  bE_of (pe_lst bA_ok) (bA_mono (sa W tk O F A H σ Γ vs T M _ R s lf h) fun ws H1 ⟨ds, M1, F1, A1, s1, p, hz, k⟩ => ⟨by rw [p.len, sizeLine_eq]; exact hz, post_cel s1 p k⟩)

/-! ### truth -/
def truD (M : MM) : D → Option Bool
  | .non => some false
  | .bl b => some b
  | .int i => some (i != 0)
  | .str l => if l.length ≤ 16777216 then some (!l.isEmpty) else none
  | .tp l => some (!l.isEmpty)
  | d => (lsOf M d).map fun l => !l.isEmpty
theorem isL_empty {K : PySem.W.Frag} {mg : Str → Option Value} {A : List Addr} {F : Hp} {xs : List V} {ds : List D} (p : IsL K mg A F xs ds) : xs.isEmpty = ds.isEmpty := by
  cases p <;> rfl
theorem StOk.tru {O : Org} {F : Hp} {A : List Addr} {H : Hp} {σ : L2.St} {Γ : G} {vs : List V} {T : List D} {M : MM} (s : StOk X O F A H σ Γ vs T M) {v : V} {d : D} {k : Bool} (i : Is X.K X.mg A F v d) (h : truD M d = some k) : TruV X.K v H k := by
  have rest : ((lsOf M d).map fun l => !l.isEmpty) = some k → TruV X.K v H k := by
    intro h
    cases e : lsOf M d with
    | none => rw [e] at h; cases h
    | some l =>
      rw [e] at h
      have h : (!l.isEmpty) = k := Option.some.inj h
      obtain ⟨a, xs, rfl, hq, p⟩ := s.lst i e
      exact .inl ⟨xs, hq, by rw [isL_empty p, h]⟩
  cases d with
  | non => rw [is_non i]; exact (Option.some.inj h).symm
  | bl b => rw [is_bl i]; exact (Option.some.inj h).symm
  | int b => rw [is_int i]; exact (Option.some.inj h).symm
  | str l =>
    have h : (if l.length ≤ 16777216 then some (!l.isEmpty) else none) = some k := h
    rw [is_str i]
    by_cases hz : l.length ≤ 16777216
    · rw [if_pos hz] at h
      refine ⟨by rw [len_SS, sizeLine_eq]; exact hz, ?_⟩
      rw [len_SS, ← Option.some.inj h]
      cases l <;> simp
      omega
    · rw [if_neg hz] at h
      cases h
  | tp l =>
    have h : (!l.isEmpty) = k := Option.some.inj h
    obtain ⟨a, xs, rfl, hq, p⟩ := s.tup i rfl
    exact .inr (.inl ⟨xs, hq, by rw [isL_empty p, h]⟩)
  | _ => exact rest h

/-! ### tests -/
def qTru (t : DE) : DT := fun Γ M K R => t Γ M (fun d M1 => ∃ b, truD M1 d = some b ∧ K b M1) R
def qNot (t : DT) : DT := fun Γ M K R => t Γ M (fun b M1 => K (!b) M1) R
def qAnd (t u : DT) : DT := fun Γ M K R => t Γ M (fun b M1 => if b = true then u Γ M1 K R else K false M1) R
def qOr (t u : DT) : DT := fun Γ M K R => t Γ M (fun b M1 => if b = true then K true M1 else u Γ M1 K R) R
theorem st_e (sa : SE X e te) (he : ∀ whole, isTrue e X.env whole = (do let v ← whole; standAt e.pos; holding [v] (truthy v)) := by intro _; rfl) : ST X e (qTru te) := fun W tk O F A H σ Γ vs T M K R s lf h =>
  bT_of (pt_truth bE_ok he) (bE_mono (sa W tk O F A H σ Γ vs T M _ R s lf h) fun v H1 ⟨d, M1, F1, A1, s1, b, hb, k⟩ => ⟨b, s1.tru s1.top hb, M1, F1, A1, s1.pop, k⟩)
theorem st_not (sa : ST X e tc) : ST X (.UnaryOp .Not e pos) (qNot tc) := fun W tk O F A H σ Γ vs T M K R s lf h =>
  bT_of (pt_not bT_ok) (bT_mono (sa W tk O F A H σ Γ vs T M _ R s lf h) fun b H1 ⟨M1, F1, A1, s1, k⟩ => ⟨M1, F1, A1, s1, k⟩)
theorem sw_pt (h : SW X e tc) : ST X e tc := fun W tk O F A H σ Γ vs T M K R s lf k => bT_of (PW.pt bW_ok) (h W tk O F A H σ Γ vs T M K R s lf k)
theorem sw_and1 (sa : ST X a tc) : SW X (.BoolOp .And [a] pos) tc := fun W tk O F A H σ Γ vs T M K R s lf h => bW_of (pw_and1 bT_ok) (sa W tk O F A H σ Γ vs T M K R s lf h)
theorem sw_or1 (sa : ST X a tc) : SW X (.BoolOp .Or [a] pos) tc := fun W tk O F A H σ Γ vs T M K R s lf h => bW_of (pw_or1 bT_ok) (sa W tk O F A H σ Γ vs T M K R s lf h)
theorem sw_and {tu : DT} {rest : List Expr} (sa : ST X a tc) (sb : SW X (.BoolOp .And (b :: rest) pos) tu) : SW X (.BoolOp .And (a :: b :: rest) pos) (qAnd tc tu) := fun W tk O F A H σ Γ vs T M K R s lf h =>
  bW_of (pw_and bT_ok bW_ok) (bT_mono (sa W tk O F A H σ Γ vs T M _ R s lf h) fun q H1 ⟨M1, F1, A1, s1, k⟩ => by
    cases q with
    | true => exact sb W tk O F1 A1 H1 σ Γ vs T M1 K R s1 lf k
    | false => exact ⟨M1, F1, A1, s1, k⟩)
theorem sw_or {tu : DT} {rest : List Expr} (sa : ST X a tc) (sb : SW X (.BoolOp .Or (b :: rest) pos) tu) : SW X (.BoolOp .Or (a :: b :: rest) pos) (qOr tc tu) := fun W tk O F A H σ Γ vs T M K R s lf h =>
  bW_of (pw_or bT_ok bW_ok) (bT_mono (sa W tk O F A H σ Γ vs T M _ R s lf h) fun q H1 ⟨M1, F1, A1, s1, k⟩ => by
    cases q with
    | false => exact sb W tk O F1 A1 H1 σ Γ vs T M1 K R s1 lf k
    | true => exact ⟨M1, F1, A1, s1, k⟩)

/-! ### values by tests -/
def dIf (t : DT) (ta tb : DE) : DE := fun Γ M K R => t Γ M (fun b M1 => if b = true then ta Γ M1 K R else tb Γ M1 K R) R
def dNot (t : DE) : DE := fun Γ M K R => t Γ M (fun d M1 => ∃ b, truD M1 d = some b ∧ K (.bl (!b)) M1) R
def dAnd (ta tb : DE) : DE := fun Γ M K R => ta Γ M (fun d M1 => ∃ b, truD M1 d = some b ∧ if b = true then tb Γ M1 K R else K d M1) R
def dOr (ta tb : DE) : DE := fun Γ M K R => ta Γ M (fun d M1 => ∃ b, truD M1 d = some b ∧ if b = true then K d M1 else tb Γ M1 K R) R
theorem se_if (sc : ST X c tc) (sa : SE X a ta) (sb : SE X b tb) : SE X (.IfExp c a b pos) (dIf tc ta tb) := fun W tk O F A H σ Γ vs T M K R s lf h =>
  bE_of (pe_ifExp bT_ok bE_ok bE_ok) (bT_mono (sc W tk O F A H σ Γ vs T M _ R s lf h) fun q H1 ⟨M1, F1, A1, s1, k⟩ => by
    cases q with
    | true => exact sa W tk O F1 A1 H1 σ Γ vs T M1 K R s1 lf k
    | false => exact sb W tk O F1 A1 H1 σ Γ vs T M1 K R s1 lf k)
theorem se_not (sa : SE X a ta) : SE X (.UnaryOp .Not a pos) (dNot ta) := fun W tk O F A H σ Γ vs T M K R s lf h =>
  bE_of (pe_notT bE_ok) (bE_mono (sa W tk O F A H σ Γ vs T M _ R s lf h) fun v H1 ⟨d, M1, F1, A1, s1, b, hb, k⟩ => ⟨b, s1.tru s1.top hb, post_c s1.pop (.bl _) k⟩)
theorem se_one {op : BoolOp} (sa : SE X a ta) : SE X (.BoolOp op [a] pos) ta := fun W tk O F A H σ Γ vs T M K R s lf h => bE_of (pe_one bE_ok) (sa W tk O F A H σ Γ vs T M K R s lf h)
theorem se_and {rest : List Expr} (sa : SE X a ta) (sb : SE X (.BoolOp .And (b :: rest) pos) tb) : SE X (.BoolOp .And (a :: b :: rest) pos) (dAnd ta tb) := fun W tk O F A H σ Γ vs T M K R s lf h =>
  bE_of (pe_andT bE_ok bE_ok) (bE_mono (sa W tk O F A H σ Γ vs T M _ R s lf h) fun v H1 ⟨d, M1, F1, A1, s1, q, hb, k⟩ => ⟨q, s1.tru s1.top hb, by
    cases q with
    | true => exact sb W tk O F1 A1 H1 σ Γ vs T M1 K R s1.pop lf k
    | false => exact ⟨d, M1, F1, A1, s1, k⟩⟩)
theorem se_or {rest : List Expr} (sa : SE X a ta) (sb : SE X (.BoolOp .Or (b :: rest) pos) tb) : SE X (.BoolOp .Or (a :: b :: rest) pos) (dOr ta tb) := fun W tk O F A H σ Γ vs T M K R s lf h =>
  bE_of (pe_orT bE_ok bE_ok) (bE_mono (sa W tk O F A H σ Γ vs T M _ R s lf h) fun v H1 ⟨d, M1, F1, A1, s1, q, hb, k⟩ => ⟨q, s1.tru s1.top hb, by
    cases q with
    | false => exact sb W tk O F1 A1 H1 σ Γ vs T M1 K R s1.pop lf k
    | true => exact ⟨d, M1, F1, A1, s1, k⟩⟩)
def rNegD : DE → DE := fun t Γ M K R => t Γ M (fun d M1 => match d with
  | .int i => K (.int (-i)) M1
  | _ => False) R
theorem se_neg (sa : SE X a ta) : SE X (.UnaryOp .USub a pos) (rNegD ta) := fun W tk O F A H σ Γ vs T M K R s lf h =>
  bE_of (pe_un un_neg bE_ok) (bE_mono (sa W tk O F A H σ Γ vs T M _ R s lf h) fun v H1 ⟨d, M1, F1, A1, s1, k⟩ => by
    cases d with
    | int i =>
      rw [is_int s1.top]
      exact ⟨i, rfl, post_c s1.pop (.int _) k⟩
    | _ => exact k.elim)
/-- a op b op c -/
def dChain (r r' : DO2) (ta tb tc : DE) : DE := fun Γ M K R => ta Γ M (fun d1 M1 => tb Γ M1 (fun d2 M2 => r d1 d2 M2 (fun d3 M3 => ∃ k, d3 = .bl k ∧ if k = true then tc Γ M3 (fun d4 M4 => r' d2 d4 M4 K) R else K (.bl false) M3)) R) R
end

/-! ### calls of built-ins -/
def bC (X : Cx) (f : Value) : List V → Hp → VK → Prop := fun xs H Q => ∃ r, CallR X f r ∧ r xs H Q
theorem bC_ok {X : Cx} {f : Value} : CallR X f (bC X f) := by
  intro pins s σ H xs us Q I r h
  obtain ⟨r', hr, q⟩ := h
  exact hr pins s σ H xs us Q I r q
abbrev DC := List D → MM → Kd → Prop
def CallD (X : Cx) (f : Value) (r : DC) : Prop := ∀ O F A H σ Γ vs T M K ws ds, StOk X O F A H σ Γ vs T M → IsL X.K X.mg A F ws ds → r ds M K → bC X f ws H (Post X O σ Γ vs T K)
def dCall (r : DC) (t : DA) : DE := fun Γ M K R => t Γ M (fun ds M1 => r ds M1 K) R
section
variable {X : Cx} {x : Str} {e : Expr} {es : List Expr} {t : DA} {r : DC} {id Tn : String} {p pos : Pos}
theorem se_callB (hc : CallD X (.builtin id) r) (hm : X.mg x = none) (sa : SA X (e :: es) t) (hg : Gl X x := by rfl) (hv : bootBuiltins x = some (.builtin id) := by decide +kernel) (hn : x ≠ "__name__" := by decide) (hdb : (x == ("__debug__" : Str)) = false := by decide)
    (he : starEach (e :: es) X.env = (false, eval e X.env) :: starEach es X.env := by rfl) (hpl : (backTo pos (starEach es X.env)).any (·.1) = false := by rfl) : SE X (.Call (.Name x p) (e :: es) [] pos) (dCall r t) := fun W tk O F A H σ Γ vs T M K R s lf h =>
  bE_of (pe_callB bC_ok hg hm hv bA_ok hn hdb he hpl) (bA_mono (sa W tk O F A H σ Γ vs T M _ R s lf h) fun ws H1 ⟨ds, M1, F1, A1, s1, q, k⟩ => hc O F1 A1 H1 σ Γ vs T M1 K ws ds s1 q k)
theorem se_callTy (hc : CallD X (.type Tn) r) (hm : X.mg x = none) (sa : SA X (e :: es) t) (hg : Gl X x := by rfl) (hv : bootBuiltins x = some (.type Tn) := by decide +kernel) (hn : x ≠ "__name__" := by decide) (hdb : (x == ("__debug__" : Str)) = false := by decide)
    (he : starEach (e :: es) X.env = (false, eval e X.env) :: starEach es X.env := by rfl) (hpl : (backTo pos (starEach es X.env)).any (·.1) = false := by rfl) : SE X (.Call (.Name x p) (e :: es) [] pos) (dCall r t) := fun W tk O F A H σ Γ vs T M K R s lf h =>
  bE_of (pe_callTy bC_ok hg hm hv bA_ok hn hdb he hpl) (bA_mono (sa W tk O F A H σ Γ vs T M _ R s lf h) fun ws H1 ⟨ds, M1, F1, A1, s1, q, k⟩ => hc O F1 A1 H1 σ Γ vs T M1 K ws ds s1 q k)
def rLen : DC := fun ds M K => match ds with
  | [.str l] => l.length ≤ 16777216 ∧ K (.int l.length) M
  | [d] => (match sqOf M d with
    | some l => K (.int l.length) M
    | none => False)
  | _ => False
theorem cd_len : CallD X (.builtin "len") rLen := by
  intro O F A H σ Γ vs T M K ws ds s p h
  cases p with
  | nil => exact h.elim
  | @cons v d vs' ds' i t =>
    cases t with
    | cons _ _ => cases d <;> exact h.elim
    | nil =>
      have rest : (match sqOf M d with | some l => K (.int l.length) M | none => False) → bC X (.builtin "len") [v] H (Post X O σ Γ vs T K) := by
        intro h
        cases e : sqOf M d with
        | none => rw [e] at h; exact h.elim
        | some l =>
          rw [e] at h
          obtain ⟨a, xs, rfl, hq, q⟩ := s.seq i e
          rcases hq with hq | hq
          · exact ⟨_, call_len, .ref a, xs.length, rfl, .inl ⟨xs, hq, rfl⟩, post_c s (by rw [q.len]; exact .int _) h⟩
          · exact ⟨_, call_len, .ref a, xs.length, rfl, .inr ⟨xs, hq, rfl⟩, post_c s (by rw [q.len]; exact .int _) h⟩
      cases d with
      | str l =>
        obtain ⟨hz, k⟩ := h
        rw [is_str i]
        exact ⟨_, call_len, .str (SS l), l.length, rfl, ⟨by rw [len_SS, sizeLine_eq]; exact hz, by rw [len_SS]⟩, post_c s (.int _) k⟩
      | _ => exact rest h
def rAbs : DC := fun ds M K => match ds with
  | [.int i] => K (.int (if i < 0 then -i else i)) M
  | _ => False
theorem cd_abs : CallD X (.builtin "abs") rAbs := by
  intro O F A H σ Γ vs T M K ws ds s p h
  match ds, p, h with
  | [.int i], .cons r .nil, h =>
    rw [is_int r]
    exact ⟨_, call_abs, i, rfl, post_c s (.int _) h⟩
def rMax2 : DC := fun ds M K => match ds with
  | [.int i, .int j] => K (.int (if j > i then j else i)) M
  | _ => False
theorem cd_max2 (hc : X.calm = true) : CallD X (.builtin "max") rMax2 := by
  intro O F A H σ Γ vs T M K ws ds s p h
  match ds, p, h with
  | [.int i, .int j], .cons r (.cons r2 .nil), h =>
    rw [is_int r, is_int r2]
    exact ⟨_, call_max2 hc, i, j, rfl, post_c s (.int _) h⟩
def rMin2 : DC := fun ds M K => match ds with
  | [.int i, .int j] => K (.int (if j < i then j else i)) M
  | _ => False
theorem cd_min2 (hc : X.calm = true) : CallD X (.builtin "min") rMin2 := by
  intro O F A H σ Γ vs T M K ws ds s p h
  match ds, p, h with
  | [.int i, .int j], .cons r (.cons r2 .nil), h =>
    rw [is_int r, is_int r2]
    exact ⟨_, call_min2 hc, i, j, rfl, post_c s (.int _) h⟩
def rInt1 : DC := fun ds M K => match ds with
  | [.int i] => K (.int i) M
  | [.bl b] => K (.int (if b then 1 else 0)) M
  | _ => False
theorem cd_int1 : CallD X (.type "int") rInt1 := by
  intro O F A H σ Γ vs T M K ws ds s p h
  match ds, p, h with
  | [.int i], .cons r .nil, h =>
    rw [is_int r]
    exact ⟨_, call_int1, .inl ⟨i, rfl, post_c s (.int _) h⟩⟩
  | [.bl i], .cons r .nil, h =>
    rw [is_bl r]
    exact ⟨_, call_int1, .inr ⟨i, rfl, post_c s (.int _) h⟩⟩
def rOrd : DC := fun ds M K => match ds with
  | [.str [c]] => K (.int (c : Nat)) M
  | _ => False
theorem cd_ord : CallD X (.builtin "ord") rOrd := by
  intro O F A H σ Γ vs T M K ws ds s p h
  match ds, p, h with
  | [.str [c]], .cons r .nil, h =>
    rw [is_str r]
    exact ⟨_, call_ord, SS [c], rfl, rfl, post_c s (.int _) h⟩
/-- list(xs) -/
def rListOf : DC := fun ds M K => match ds with
  | [d] => (match sqOf M d with
    | some l => K (.ls l) M
    | none => False)
  | _ => False
theorem cd_list : CallD X (.type "list") rListOf := by
  intro O F A H σ Γ vs T M K ws ds s p h
  cases p with
  | nil => exact h.elim
  | @cons v d vs' ds' i t =>
    cases t with
    | cons _ _ => exact h.elim
    | nil =>
      have h : (match sqOf M d with | some l => K (.ls l) M | none => False) := h
      cases e : sqOf M d with
      | none => rw [e] at h; exact h.elim
      | some l =>
        rw [e] at h
        obtain ⟨a, xs, rfl, hq, q⟩ := s.seq i e
        exact ⟨_, call_list_of, a, xs, rfl, hq, post_ls s q h⟩
/-- tuple(xs) -/
def rTupleOf : DC := fun ds M K => match ds with
  | [d] => (match sqOf M d with
    | some l => K (.tp l) M
    | none => False)
  | _ => False
theorem cd_tuple : CallD X (.type "tuple") rTupleOf := by
  intro O F A H σ Γ vs T M K ws ds s p h
  cases p with
  | nil => exact h.elim
  | @cons v d vs' ds' i t =>
    cases t with
    | cons _ _ => exact h.elim
    | nil =>
      have h : (match sqOf M d with | some l => K (.tp l) M | none => False) := h
      cases e : lsOf M d with
      | some l =>
        have e2 : sqOf M d = some l := by
          unfold sqOf
          rw [e]
          rfl
        rw [e2] at h
        obtain ⟨a, xs, rfl, hq, q⟩ := s.lst i e
        exact ⟨_, call_tuple_of, a, xs, rfl, .inl ⟨hq, post_tp s q h⟩⟩
      | none =>
        have e2 : sqOf M d = tpOf d := by
          unfold sqOf
          rw [e]
          rfl
        rw [e2] at h
        cases e3 : tpOf d with
        | none => rw [e3] at h; exact h.elim
        | some l =>
          rw [e3] at h
          obtain ⟨a, xs, rfl, hq, q⟩ := s.tup i e3
          refine ⟨_, call_tuple_of, a, xs, rfl, .inr ⟨hq, ?_⟩⟩
          have k : K (.tp l) M := h
          cases d with
          | tp l' =>
            have e4 : l' = l := Option.some.inj e3
            subst e4
            exact post_c s i k
          | _ => cases e3
end
end L3

namespace L3
open PySem PySem.Spec PyProof.Rows L2 Evl
open Classical

/-! ### texts as lists of codes -/
/-- cut at each c -/
def spC (c : Nat) : List Nat → List (List Nat)
  | [] => [[]]
  | x :: r => if x = c then [] :: spC c r else match spC c r with
    | h :: t => (x :: h) :: t
    | [] => [[x]]
theorem spC_hit {c x : Nat} (r : List Nat) (h : x = c) : spC c (x :: r) = [] :: spC c r := by
  show (if x = c then _ else _) = _
  rw [if_pos h]
theorem spC_miss {c x : Nat} {r a : List Nat} {b : List (List Nat)} (h : ¬ x = c) (e : spC c r = a :: b) : spC c (x :: r) = (x :: a) :: b := by
  show (if x = c then [] :: spC c r else match spC c r with | h :: t => (x :: h) :: t | [] => [[x]]) = _
  rw [if_neg h, e]
theorem spC_ne (c : Nat) (l : List Nat) : spC c l ≠ [] := by
  cases l with
  | nil => simp [spC]
  | cons x r =>
    unfold spC
    by_cases h : x = c
    · rw [if_pos h]; simp
    · rw [if_neg h]
      split <;> simp
theorem pre1 (c x : Nat) (r : List Nat) : TL.pre [c] (x :: r) = decide (x = c) := by
  unfold TL.pre
  by_cases h : x = c
  · simp [h]
  · simp [h]
theorem spl_spC (c : Nat) : ∀ (l acc : List Nat), TL.spl [c] 0 acc l = (match spC c l with | h :: t => (acc ++ h) :: t | [] => [acc])
  | [], acc => by rw [TL.spl_nil]; simp [spC]
  | x :: r, acc => by
    by_cases h : x = c
    · rw [TL.spl_hit (by rw [pre1]; exact decide_eq_true h)]
      have ih := spl_spC c r []
      show acc :: TL.spl [c] 0 [] r = _
      rw [ih, spC_hit r h]
      cases e : spC c r with
      | nil => exact absurd e (spC_ne c r)
      | cons a b => simp
    · rw [TL.spl_miss (by rw [pre1]; exact decide_eq_false h), spl_spC c r]
      cases e : spC c r with
      | nil => exact absurd e (spC_ne c r)
      | cons a b =>
        rw [spC_miss h e]
        simp
theorem tl_SS (l : List Nat) : TL.tl (SS l) = l := rfl
theorem kind_SS {a b : List Nat} (h : Asc b) : ¬ Builtin.Str.strKind (SS a) < Builtin.Str.strKind (SS b) := TL.kind_ok (by
  rw [← Array.all_toList]
  exact List.all_eq_true.mpr fun c hc => decide_eq_true (Nat.lt_trans (h c hc) (by decide)))
theorem split_SS (a : List Nat) (c : Nat) (h : c < 128) : Txt.split (SS a) (SS [c]) = (spC c a).map SS := by
  apply TL.map_tl_inj
  rw [TL.split_spl (SS a) (SS [c]) (by rw [tl_SS]; simp) (kind_SS (fun x hx => by
    have e : x = c := by simpa using hx
    rw [e]
    exact h)), tl_SS, tl_SS, spl_spC, List.map_map]
  have e : (TL.tl ∘ SS) = id := rfl
  rw [e, List.map_id]
  cases q : spC c a with
  | nil => exact absurd q (spC_ne c a)
  | cons x y => simp
theorem spC_sub (c : Nat) : ∀ (l : List Nat), ∀ p ∈ spC c l, ∀ x ∈ p, x ∈ l
  | [], p, hp, x, hx => by
    have e : p = [] := by simpa [spC] using hp
    subst e
    cases hx
  | y :: r, p, hp, x, hx => by
    unfold spC at hp
    by_cases h : y = c
    · rw [if_pos h] at hp
      rcases List.mem_cons.mp hp with e | e
      · subst e
        cases hx
      · exact List.mem_cons_of_mem _ (spC_sub c r p e x hx)
    · rw [if_neg h] at hp
      have ih := spC_sub c r
      cases e : spC c r with
      | nil => exact absurd e (spC_ne c r)
      | cons a b =>
        rw [e] at hp ih
        rcases List.mem_cons.mp hp with q | q
        · subst q
          rcases List.mem_cons.mp hx with z | z
          · rw [z]; exact List.mem_cons_self
          · exact List.mem_cons_of_mem _ (ih a List.mem_cons_self x z)
        · exact List.mem_cons_of_mem _ (ih p (List.mem_cons_of_mem _ q) x hx)
theorem spC_len (c : Nat) : ∀ l : List Nat, (spC c l).length ≤ l.length + 1
  | [] => by simp [spC]
  | y :: r => by
    have ih := spC_len c r
    unfold spC
    by_cases h : y = c
    · rw [if_pos h]
      simp only [List.length_cons]
      omega
    · rw [if_neg h]
      cases e : spC c r with
      | nil => exact absurd e (spC_ne c r)
      | cons a b =>
        rw [e] at ih
        simp only [List.length_cons] at ih ⊢
        omega
/-- what stands before the first c, the c, what stands behind it -/
def ptC (c : Nat) : List Nat → List Nat × List Nat × List Nat
  | [] => ([], [], [])
  | x :: r => if x = c then ([], [c], r) else let (a, s, b) := ptC c r; (x :: a, s, b)
theorem par_ptC (c : Nat) : ∀ (l acc : List Nat), (match TL.par [c] acc l with | some (a, b) => (a, [c], b) | none => (acc ++ l, [], [])) = (acc ++ (ptC c l).1, (ptC c l).2.1, (ptC c l).2.2)
  | [], acc => by simp [TL.par, ptC]
  | x :: r, acc => by
    by_cases h : x = c
    · rw [TL.par_hit (by rw [pre1]; exact decide_eq_true h)]
      unfold ptC
      rw [if_pos h]
      simp
    · rw [TL.par_miss (by rw [pre1]; exact decide_eq_false h)]
      have ih := par_ptC c r (acc ++ [x])
      have e1 : acc ++ x :: r = acc ++ [x] ++ r := by simp
      rw [e1, ih]
      show _ = (acc ++ (ptC c (x :: r)).1, _, _)
      have e2 : ptC c (x :: r) = (x :: (ptC c r).1, (ptC c r).2.1, (ptC c r).2.2) := by
        show (if x = c then _ else _) = _
        rw [if_neg h]
      rw [e2]
      simp
theorem partition_SS (a : List Nat) (c : Nat) : Txt.partition (SS a) (SS [c]) = (SS (ptC c a).1, SS (ptC c a).2.1, SS (ptC c a).2.2) := by
  rw [TL.partition_par (SS a) (SS [c]) (by rw [tl_SS]; simp), tl_SS, tl_SS]
  have h := par_ptC c a []
  cases e : TL.par [c] [] a with
  | none =>
    rw [e] at h
    simp only [List.nil_append, Prod.mk.injEq] at h
    obtain ⟨h1, h2, h3⟩ := h
    rw [← h1, ← h2, ← h3]
    rfl
  | some q =>
    obtain ⟨u, v⟩ := q
    rw [e] at h
    simp only [List.nil_append, Prod.mk.injEq] at h
    obtain ⟨h1, h2, h3⟩ := h
    rw [← h1, ← h2, ← h3]
theorem ptC_eq (c : Nat) : ∀ l : List Nat, (ptC c l).1 ++ ((ptC c l).2.1 ++ (ptC c l).2.2) = l
  | [] => rfl
  | x :: r => by
    by_cases h : x = c
    · unfold ptC
      rw [if_pos h, h]
      rfl
    · have e2 : ptC c (x :: r) = (x :: (ptC c r).1, (ptC c r).2.1, (ptC c r).2.2) := by
        show (if x = c then _ else _) = _
        rw [if_neg h]
      rw [e2]
      show x :: ((ptC c r).1 ++ ((ptC c r).2.1 ++ (ptC c r).2.2)) = x :: r
      rw [ptC_eq c r]
/-- joined -/
def jn (s : List Nat) : List (List Nat) → List Nat
  | [] => []
  | [a] => a
  | a :: b :: r => a ++ s ++ jn s (b :: r)
theorem joinL_jn (s : List Nat) : ∀ l : List (List Nat), TL.joinL s l = jn s l
  | [] => rfl
  | [a] => by simp [TL.joinL, jn]
  | a :: b :: r => by
    have ih := joinL_jn s (b :: r)
    simp only [TL.joinL, jn] at ih ⊢
    rw [ih, List.append_assoc]
theorem join_SS (s : List Nat) (l : List (List Nat)) : Txt.join (SS s) (l.map SS) = SS (jn s l) := by
  rw [TL.join_eq]
  apply TL.ext_tl
  rw [TL.tl_join, tl_SS, tl_SS, List.map_map]
  have e : (TL.tl ∘ SS) = id := rfl
  rw [e, List.map_id, joinL_jn]
theorem jn_sub (s : List Nat) : ∀ (l : List (List Nat)) (x : Nat), x ∈ jn s l → x ∈ s ∨ ∃ p ∈ l, x ∈ p
  | [], x, h => by cases h
  | [a], x, h => .inr ⟨a, by simp, h⟩
  | a :: b :: r, x, h => by
    have h : x ∈ a ++ s ++ jn s (b :: r) := h
    rw [List.mem_append, List.mem_append] at h
    rcases h with (h | h) | h
    · exact .inr ⟨a, by simp, h⟩
    · exact .inl h
    · rcases jn_sub s (b :: r) x h with q | ⟨p, hp, q⟩
      · exact .inl q
      · exact .inr ⟨p, List.mem_cons_of_mem _ hp, q⟩
theorem jn_len (s : List Nat) : ∀ l : List (List Nat), (jn s l).length ≤ (l.map (·.length)).sum + l.length * s.length
  | [] => by simp [jn]
  | [a] => by simp [jn]
  | a :: b :: r => by
    have ih := jn_len s (b :: r)
    show (a ++ s ++ jn s (b :: r)).length ≤ _
    rw [List.length_append, List.length_append, List.map_cons, List.sum_cons, List.length_cons]
    have : (r.length + 1 + 1) * s.length = (r.length + 1) * s.length + s.length := by rw [Nat.add_mul, Nat.one_mul]
    rw [List.length_cons] at ih ⊢
    rw [this]
    omega
theorem startswith_SS (a b : List Nat) : Txt.startswith (SS a) (SS b) = b.isPrefixOf a := by
  unfold Txt.startswith Builtin.Str.subAt
  rw [len_SS, len_SS]
  have e : ((SS a).cps.extract 0 (0 + b.length) == (SS b).cps) = decide (a.take b.length = b) := by
    rw [Bool.eq_iff_iff, beq_iff_eq, decide_eq_true_eq, ← Array.toList_inj]
    simp
  rw [e, Bool.eq_iff_iff, List.isPrefixOf_iff_prefix, Bool.and_eq_true, decide_eq_true_eq, decide_eq_true_eq]
  constructor
  · rintro ⟨_, h⟩
    exact ⟨a.drop b.length, by
      have := List.take_append_drop b.length a
      rw [h] at this
      exact this⟩
  · rintro ⟨t, rfl⟩
    exact ⟨by simp, by simp⟩
theorem endswith_SS (a b : List Nat) : Txt.endswith (SS a) (SS b) = b.isSuffixOf a := by
  unfold Txt.endswith Builtin.Str.subAt
  rw [len_SS, len_SS]
  by_cases hb : b.length ≤ a.length
  · have e : ((SS a).cps.extract (a.length - b.length) (a.length - b.length + b.length) == (SS b).cps) = decide (a.drop (a.length - b.length) = b) := by
      rw [Bool.eq_iff_iff, beq_iff_eq, decide_eq_true_eq, ← Array.toList_inj]
      have : a.length - b.length + b.length = a.length := by omega
      rw [this]
      simp
      rw [List.take_of_length_le]
      rw [List.length_drop]
      omega
    rw [e, Bool.eq_iff_iff, List.isSuffixOf_iff_suffix, Bool.and_eq_true, decide_eq_true_eq, decide_eq_true_eq]
    constructor
    · rintro ⟨_, h⟩
      exact ⟨a.take (a.length - b.length), by
        have := List.take_append_drop (a.length - b.length) a
        rw [h] at this
        exact this⟩
    · rintro ⟨t, rfl⟩
      exact ⟨by simp, by simp⟩
  · have h1 : decide (0 + b.length ≤ a.length) = false := decide_eq_false (by omega)
    rw [h1, Bool.false_and]
    symm
    rw [Bool.eq_false_iff]
    intro h
    rw [List.isSuffixOf_iff_suffix] at h
    exact hb h.length_le
def lowC (c : Nat) : Nat := if 65 ≤ c && c ≤ 90 then c + 32 else c
def uppC (c : Nat) : Nat := if 97 ≤ c && c ≤ 122 then c - 32 else c
theorem low_tab : ∀ c : Nat, c < 128 → Unicode.lowerOf c = [lowC c] := by decide +kernel
theorem upp_tab : ∀ c : Nat, c < 128 → Unicode.upperOf c = [uppC c] := by decide +kernel
end L3

namespace L3
open PySem PySem.Spec PyProof.Rows L2 Evl
open Classical

/-! ### no changing object within; other numbers for them -/
mutual
def Gr : D → Prop
  | .ls l => GrL l
  | .tp l => GrL l
  | .rl l => GrL l
  | .ob _ _ l => GrL l
  | .cel _ => False
  | .non | .bl _ | .int _ | .str _ | .adr _ | .ty _ => True
def GrL : List D → Prop
  | [] => True
  | d :: r => Gr d ∧ GrL r
end
theorem grL_iff : ∀ {l : List D}, GrL l ↔ ∀ d ∈ l, Gr d
  | [] => by simp [GrL]
  | d :: r => by
    unfold GrL
    rw [grL_iff (l := r), List.forall_mem_cons]
theorem gr_ls {l : List D} : Gr (.ls l) ↔ ∀ d ∈ l, Gr d := by
  show GrL l ↔ _
  exact grL_iff
theorem gr_tp {l : List D} : Gr (.tp l) ↔ ∀ d ∈ l, Gr d := by
  show GrL l ↔ _
  exact grL_iff
theorem gr_strs (l : List (List Nat)) : ∀ d ∈ l.map D.str, Gr d := by
  intro d hd
  obtain ⟨s, _, rfl⟩ := List.mem_map.mp hd
  exact trivial
theorem gr_ints (l : List Int) : ∀ d ∈ l.map D.int, Gr d := by
  intro d hd
  obtain ⟨s, _, rfl⟩ := List.mem_map.mp hd
  exact trivial
section
variable {K : PySem.W.Frag} {mg : Str → Option Value} {A A' : List Addr} {F : Hp}
theorem Is.gr {v : V} {d : D} (h : Is K mg A F v d) (g : Gr d) : Is K mg A' F v d := by
  induction h with
  | non => exact .non
  | bl b => exact .bl b
  | int i => exact .int i
  | str l h => exact .str l h
  | rl h n p ih => exact .rl h n fun i x d e1 e2 => ih i x d e1 e2 (grL_iff.mp g d (List.mem_of_getElem? e2))
  | ls h n p ih => exact .ls h n fun i x d e1 e2 => ih i x d e1 e2 (grL_iff.mp g d (List.mem_of_getElem? e2))
  | tp h n p ih => exact .tp h n fun i x d e1 e2 => ih i x d e1 e2 (grL_iff.mp g d (List.mem_of_getElem? e2))
  | cel h => exact g.elim
  | ob hc h hn n p ih => exact .ob hc h hn n fun i x d e1 e2 => ih i x d e1 e2 (grL_iff.mp g d (List.mem_of_getElem? e2))
  | adr a => exact .adr a
  | ty n => exact .ty n
theorem IsL.gr {vs : List V} {ds : List D} (h : IsL K mg A F vs ds) (g : ∀ d ∈ ds, Gr d) : IsL K mg A' F vs ds := by
  induction h with
  | nil => exact .nil
  | cons r t ih => exact .cons (r.gr (g _ List.mem_cons_self)) (ih fun d hd => g d (List.mem_cons_of_mem _ hd))
end
/-- a changing object whose content bears none -/
def GrM : MO → Prop
  | .ls l => ∀ d ∈ l, Gr d
  | .dc l => ∀ p ∈ l, Gr p.2
  | .ob _ _ l => ∀ d ∈ l, Gr d
  | .dead => True
theorem MoIs.gr {K : PySem.W.Frag} {mg : Str → Option Value} {A A' : List Addr} {F H : Hp} {a : Addr} {m : MO} (h : MoIs K mg A F H a m) (g : GrM m) : MoIs K mg A' F H a m := by
  cases m with
  | ls l =>
    obtain ⟨h1, xs, h2, p⟩ := h
    exact ⟨h1, xs, h2, p.gr g⟩
  | dc l =>
    obtain ⟨h1, xs, h2, h3, p⟩ := h
    exact ⟨h1, xs, h2, h3, p.gr fun d hd => by
      obtain ⟨q, hq, rfl⟩ := List.mem_map.mp hd
      exact g q hq⟩
  | ob c ns l =>
    obtain ⟨h1, C, dx, fs, h2, h3, h4, p⟩ := h
    exact ⟨h1, C, dx, fs, h2, h3, h4, p.gr g⟩
  | dead => trivial

/-! ### what a def promises, by data -/
abbrev Kx := XD → MM → Prop
abbrev DSpec := List D → MM → Kd → Kx → Prop
structure Mem (K : PySem.W.Frag) (mg : Str → Option Value) (F : Hp) (A : List Addr) (H : Hp) (M : MM) : Prop where
  ex : Ex F H
  nd : A.Nodup
  inH : ∀ a ∈ A, H a ≠ none
  len : A.length = M.length
  cells : ∀ (k : Nat) a m, A[k]? = some a → M[k]? = some m → MoIs K mg A F H a m
/-- from (F, A, H) to (F', A', H') -/
structure Went (F : Hp) (A : List Addr) (H : Hp) (F' : Hp) (A' : List Addr) (H' : Hp) : Prop where
  exF : Ex F F'
  pre : A <+: A'
  keep : ∀ a o, a ∉ A → H a = some o → H' a = some o
  frs : ∀ a ∈ A', a ∉ A → H a = none
  nw : ∀ a o, F' a = some o → F a = some o ∨ H a = none ∨ a ∈ A
def spOf (K : PySem.W.Frag) (mg : Str → Option Value) (S : DSpec) : Sp := fun vs H Q E => ∃ F A M ds K0 R0, Mem K mg F A H M ∧ IsL K mg A F vs ds ∧ S ds M K0 R0 ∧
  (∀ d M', K0 d M' → ∀ v F' A' H', Went F A H F' A' H' → Mem K mg F' A' H' M' → Is K mg A' F' v d → Q v H') ∧
  (∀ x M', R0 x M' → ∀ cls dd F' A' H', Went F A H F' A' H' → Mem K mg F' A' H' M' → XIs K mg A' F' cls dd x → E cls dd H')

section
variable {X : Cx} {O : Org} {F F' : Hp} {A Ac N : List Addr} {H H' : Hp} {σ : L2.St} {Γ : G} {vs : List V} {T : List D} {M M' : MM}
theorem StOk.went (s : StOk X O F A H σ Γ vs T M) (w : Went F Ac H F' (Ac ++ N) H') (sub : ∀ a ∈ Ac, a ∈ A) (exH' : Ex F' H') (nd' : (Ac ++ N).Nodup) (inH' : ∀ a ∈ Ac ++ N, H' a ≠ none) (hl : (A ++ N).length = M'.length)
    (hc : ∀ (k : Nat) a m, (A ++ N)[k]? = some a → M'[k]? = some m → (a ∈ Ac ++ N → MoIs X.K X.mg (A ++ N) F' H' a m) ∧ (a ∈ A → a ∉ Ac → M[k]? = some m ∧ A[k]? = some a)) : StOk X O F' (A ++ N) H' σ Γ vs T M' := by
  have hN : ∀ a ∈ N, a ∉ Ac ∧ H a = none := fun a ha => by
    have h1 : a ∉ Ac := fun z => (List.nodup_append.mp nd').2.2 a z a ha rfl
    exact ⟨h1, w.frs a (List.mem_append_right _ ha) h1⟩
  have pre : A <+: A ++ N := ⟨N, rfl⟩
  refine ⟨s.exF.trans w.exF, exH', fun a o e => ?_, s.pre.trans pre, fun a o ha e => ?_, fun a ha hO => ?_, ?_, fun a ha => ?_, hl, fun k a m e1 e2 => ?_, s.sl, fun i d e => ?_, s.tmp.mono w.exF pre⟩
  · rcases w.nw a o e with h | h | h
    · exact s.nw a o h
    · exact .inr (.inl (s.fr h))
    · by_cases hO : a ∈ O.A
      · exact .inr (.inr hO)
      · exact .inr (.inl (s.frs a (sub a h) hO))
  · refine w.keep a o (fun z => ?_) (s.keep a o ha e)
    have := s.frs a (sub a z) ha
    rw [e] at this
    cases this
  · rcases List.mem_append.mp ha with h | h
    · exact s.frs a h hO
    · exact s.fr (hN a h).2
  · rw [List.nodup_append]
    exact ⟨s.nd, (List.nodup_append.mp nd').2.1, fun a ha b hb e => s.inH a ha (by rw [e]; exact (hN b hb).2)⟩
  · rcases List.mem_append.mp ha with h | h
    · by_cases hac : a ∈ Ac
      · exact inH' a (List.mem_append_left _ hac)
      · cases q : H a with
        | none => exact absurd q (s.inH a h)
        | some o =>
          rw [w.keep a o hac q]
          simp
    · exact inH' a (List.mem_append_right _ h)
  · obtain ⟨h1, h2⟩ := hc k a m e1 e2
    by_cases hac : a ∈ Ac ++ N
    · exact h1 hac
    · have hA : a ∈ A := (List.mem_append.mp (List.mem_of_getElem? e1)).elim id fun z => absurd (List.mem_append_right _ z) hac
      have hnc : a ∉ Ac := fun z => hac (List.mem_append_left _ z)
      obtain ⟨q1, q2⟩ := h2 hA hnc
      have c := s.cells k a m q2 q1
      cases q : H a with
      | none => exact absurd q (s.inH a hA)
      | some o =>
        refine c.mono w.exF pre (fun z => ?_) (by rw [w.keep a o hnc q, q])
        cases r : F' a with
        | none => rfl
        | some u =>
          rcases w.nw a u r with h | h | h
          · rw [z] at h; cases h
          · rw [q] at h; cases h
          · exact absurd h hnc
  · obtain ⟨v, h1, h2⟩ := s.slot i d e
    exact ⟨v, h1, h2.mono w.exF pre⟩
theorem StOk.mem0 (s : StOk X O F A H σ Γ vs T M) : Mem X.K X.mg F [] H [] := ⟨s.exH, List.nodup_nil, fun a h => (nomatch h), rfl, fun k a m h => by simp at h⟩
theorem StOk.mem1 (s : StOk X O F A H σ Γ vs T M) {k : Nat} {a : Addr} {m : MO} (e1 : A[k]? = some a) (e2 : M[k]? = some m) (g : GrM m) : Mem X.K X.mg F [a] H [m] := by
  refine ⟨s.exH, by simp, fun b hb => ?_, rfl, fun j b m' h1 h2 => ?_⟩
  · have e : b = a := by simpa using hb
    rw [e]
    exact s.inH a (List.mem_of_getElem? e1)
  · cases j with
    | zero =>
      simp at h1 h2
      subst h1; subst h2
      exact (s.cells k a m e1 e2).gr g
    | succ j => simp at h1
theorem StOk.memW (s : StOk X O F A H σ Γ vs T M) : Mem X.K X.mg F A H M := ⟨s.exH, s.nd, s.inH, s.len, s.cells⟩
/-- behind a call that had no changing object -/
theorem StOk.after0 (s : StOk X O F A H σ Γ vs T M) (w : Went F [] H F' [] H') (m : Mem X.K X.mg F' [] H' []) : StOk X O F' A H' σ Γ vs T M := by
  have h := s.went (Ac := []) (N := []) (M' := M) w (fun _ h => (nomatch h)) m.ex (by simp) (fun _ h => (nomatch h)) (by simpa using s.len) fun k a mo e1 e2 => ⟨fun h => (nomatch h), fun _ _ => ⟨e2, by simpa using e1⟩⟩
  simpa using h
/-- .. that made one -/
theorem StOk.afterN {p : Addr} {m : MO} (s : StOk X O F A H σ Γ vs T M) (w : Went F [] H F' [p] H') (mm : Mem X.K X.mg F' [p] H' [m]) (g : GrM m) : StOk X O F' (A ++ [p]) H' σ Γ vs T (M ++ [m]) := by
  refine s.went (Ac := []) (N := [p]) w (fun _ h => (nomatch h)) mm.ex (by simp) (fun a h => mm.inH a h) (by simp [s.len]) fun k a mo e1 e2 => ⟨fun h => ?_, fun hA _ => ?_⟩
  · have e : a = p := by simpa using h
    subst e
    have hp : H a = none := w.frs a (by simp) (by simp)
    have hk : ¬ k < A.length := fun z => by
      rw [List.getElem?_append_left z] at e1
      exact s.inH a (List.mem_of_getElem? e1) hp
    rw [List.getElem?_append_right (by rw [← s.len]; omega), ← s.len] at e2
    have hk0 : k - A.length = 0 := by
      have := (List.getElem?_eq_some_iff.mp e2).1
      simp at this
      omega
    rw [hk0] at e2
    have e3 : m = mo := by simpa using e2
    subst e3
    exact (mm.cells 0 a m rfl rfl).gr g
  · have hk : k < A.length := by
      refine Decidable.byContradiction fun z => ?_
      rw [List.getElem?_append_right (by omega)] at e1
      have e : a = p := by
        have := List.mem_of_getElem? e1
        simpa using this
      exact s.inH a hA (by rw [e]; exact w.frs p (by simp) (by simp))
    rw [List.getElem?_append_left hk] at e1
    rw [List.getElem?_append_left (by rw [← s.len]; exact hk)] at e2
    exact ⟨e2, e1⟩
/-- .. that had one -/
theorem StOk.after1 {k : Nat} {a : Addr} {m m' : MO} (s : StOk X O F A H σ Γ vs T M) (e1 : A[k]? = some a) (e2 : M[k]? = some m) (w : Went F [a] H F' [a] H') (mm : Mem X.K X.mg F' [a] H' [m']) (g : GrM m') : StOk X O F' A H' σ Γ vs T (M.set k m') := by
  have hkA : k < A.length := (List.getElem?_eq_some_iff.mp e1).1
  have h := s.went (Ac := [a]) (N := []) (M' := M.set k m') (by simpa using w) (fun b hb => by
    have e : b = a := by simpa using hb
    rw [e]
    exact List.mem_of_getElem? e1) mm.ex (by simp) (fun b h => mm.inH b (by simpa using h)) (by simpa using s.len) fun j b mo h1 h2 => ⟨fun h => ?_, fun hA hn => ?_⟩
  · simpa using h
  · have e : b = a := by simpa using h
    subst e
    rw [List.append_nil] at h1
    have ej : j = k := by
      obtain ⟨p1, p2⟩ := List.getElem?_eq_some_iff.mp h1
      obtain ⟨q1, q2⟩ := List.getElem?_eq_some_iff.mp e1
      exact (List.getElem_inj s.nd).mp (p2.trans q2.symm)
    subst ej
    have e3 : m' = mo := by
      rw [List.getElem?_set_self (by rw [← s.len]; exact hkA)] at h2
      exact Option.some.inj h2
    subst e3
    exact (mm.cells 0 b m' rfl rfl).gr g
  · rw [List.append_nil] at h1
    have ej : k ≠ j := fun z => by
      subst z
      rw [e1] at h1
      exact hn (by simp [Option.some.inj h1])
    rw [List.getElem?_set_ne ej] at h2
    exact ⟨h2, h1⟩
/-- .. that had them all -/
theorem StOk.afterW {M' : MM} (s : StOk X O F A H σ Γ vs T M) (w : Went F A H F' (A ++ N) H') (mm : Mem X.K X.mg F' (A ++ N) H' M') : StOk X O F' (A ++ N) H' σ Γ vs T M' :=
  s.went (Ac := A) (N := N) w (fun _ h => h) mm.ex mm.nd mm.inH mm.len fun k a mo e1 e2 => ⟨fun _ => mm.cells k a mo e1 e2, fun hA hn => absurd hA hn⟩
end
end L3

namespace L3
open PySem PySem.Spec PyProof.Rows L2 Evl
open Classical

/-! ### calls of defs -/
abbrev FnD (X : Cx) (k : Nat) (f : Addr) (fd : FuncData) (ps : List Str) (S : DSpec) : Prop := FnOk X.prog X.w X.K X.mg X.base (L2.CX X.prog X.w) k f fd ps (spOf X.K X.mg S)
/-- what a call with these data asks: no changing object is handed over -/
def cPure (S : DSpec) (Γ : G) (ds : List D) (M : MM) (K : Kd) (R : Rx) : Prop := (∀ d ∈ ds, Gr d) ∧ S ds [] (fun d Mc => Mc = [] ∧ K d M) (fun x Mc => Mc = [] ∧ R x Γ M)
/-- one is made -/
def cNew (S : DSpec) (Γ : G) (ds : List D) (M : MM) (K : Kd) (R : Rx) : Prop := (∀ d ∈ ds, Gr d) ∧ S ds [] (fun d Mc => ∃ m, Mc = [m] ∧ GrM m ∧ d = .cel 0 ∧ K (.cel M.length) (M ++ [m])) (fun x Mc => Mc = [] ∧ R x Γ M)
def unC (k : Nat) : D → D
  | .cel j => if j = k then .cel 0 else .cel j
  | d => d
/-- the k-th one is handed over -/
def cBag (k : Nat) (S : DSpec) (Γ : G) (ds : List D) (M : MM) (K : Kd) (R : Rx) : Prop := ∃ m, M[k]? = some m ∧ GrM m ∧ (∀ d ∈ ds, d = .cel k ∨ Gr d) ∧
  S (ds.map (unC k)) [m] (fun d Mc => ∃ m', Mc = [m'] ∧ GrM m' ∧ Gr d ∧ K d (M.set k m')) (fun x Mc => ∃ m', Mc = [m'] ∧ GrM m' ∧ (∀ d ∈ x.l, Gr d) ∧ R x Γ (M.set k m'))
/-- all are handed over -/
def cWhole (S : DSpec) (Γ : G) (ds : List D) (M : MM) (K : Kd) (R : Rx) : Prop := S ds M K (fun x M' => R x Γ M')
theorem gr_unC {k : Nat} {d : D} (h : Gr d) : unC k d = d := by cases d <;> first | rfl | exact h.elim
theorem XIs.mono {K : PySem.W.Frag} {mg : Str → Option Value} {A A' : List Addr} {F : Hp} {cls : Value} {d : Option Addr} {x : XD} (h : XIs K mg A F cls d x) (pre : A <+: A') : XIs K mg A' F cls d x := by
  obtain ⟨C, h1, h2, h3⟩ := h
  refine ⟨C, h1, h2, ?_⟩
  rcases h3 with h3 | ⟨dd, fs, e1, e2, e3, p⟩
  · exact .inl h3
  · exact .inr ⟨dd, fs, e1, e2, e3, p.mono (Ex.refl _) pre⟩
theorem XIs.gr {K : PySem.W.Frag} {mg : Str → Option Value} {A A' : List Addr} {F : Hp} {cls : Value} {d : Option Addr} {x : XD} (h : XIs K mg A F cls d x) (g : ∀ d ∈ x.l, Gr d) : XIs K mg A' F cls d x := by
  obtain ⟨C, h1, h2, h3⟩ := h
  refine ⟨C, h1, h2, ?_⟩
  rcases h3 with h3 | ⟨dd, fs, e1, e2, e3, p⟩
  · exact .inl h3
  · exact .inr ⟨dd, fs, e1, e2, e3, p.gr g⟩
section
variable {X : Cx} {O : Org} {F : Hp} {A : List Addr} {H : Hp} {σ : L2.St} {Γ : G} {vs : List V} {T : List D} {M : MM} {K : Kd} {R : Rx} {W : WX} {S : DSpec} {ws : List V} {ds : List D}
theorem len0 {K : PySem.W.Frag} {mg : Str → Option Value} {F' H' : Hp} {A' : List Addr} (m : Mem K mg F' A' H' []) : A' = [] := by
  cases A' with
  | nil => rfl
  | cons a r => exact nomatch m.len
theorem len1 {K : PySem.W.Frag} {mg : Str → Option Value} {F' H' : Hp} {A' : List Addr} {mo : MO} (m : Mem K mg F' A' H' [mo]) : ∃ p, A' = [p] := by
  match A', m.len with
  | [p], _ => exact ⟨p, rfl⟩
theorem sp_pure (s : StOk X O F A H σ Γ vs T M) (lf : Lift X W O vs T R) (p : IsL X.K X.mg A F ws ds) (h : cPure S Γ ds M K R) : spOf X.K X.mg S ws H (Post X O σ Γ vs T K) (WE W σ) := by
  obtain ⟨g, h⟩ := h
  refine ⟨F, [], [], ds, _, _, s.mem0, p.gr g, h, ?_, ?_⟩
  · rintro d Mc ⟨rfl, k⟩ v F' A' H' w m i
    obtain rfl := len0 m
    exact ⟨d, M, F', A, (s.after0 w m).push (i.mono (Ex.refl _) (List.nil_prefix)), k⟩
  · rintro x Mc ⟨rfl, k⟩ cls dd F' A' H' w m i
    obtain rfl := len0 m
    exact lf x σ Γ M F' A H' cls dd (s.after0 w m) (i.mono (List.nil_prefix)) k
theorem sp_new (s : StOk X O F A H σ Γ vs T M) (lf : Lift X W O vs T R) (p : IsL X.K X.mg A F ws ds) (h : cNew S Γ ds M K R) : spOf X.K X.mg S ws H (Post X O σ Γ vs T K) (WE W σ) := by
  obtain ⟨g, h⟩ := h
  refine ⟨F, [], [], ds, _, _, s.mem0, p.gr g, h, ?_, ?_⟩
  · rintro d Mc ⟨mo, rfl, gm, rfl, k⟩ v F' A' H' w m i
    obtain ⟨q, rfl⟩ := len1 m
    obtain ⟨a, rfl, e⟩ := is_cel i
    have e : q = a := by simpa using e
    subst e
    refine ⟨.cel M.length, M ++ [mo], F', A ++ [q], (s.afterN w m gm).push (.cel ?_), k⟩
    rw [← s.len, List.getElem?_append_right (Nat.le_refl _), Nat.sub_self]
    rfl
  · rintro x Mc ⟨rfl, k⟩ cls dd F' A' H' w m i
    obtain rfl := len0 m
    exact lf x σ Γ M F' A H' cls dd (s.after0 w m) (i.mono (List.nil_prefix)) k
theorem isL_unC {k : Nat} {a : Addr} (hk : A[k]? = some a) : ∀ {ws : List V} {ds : List D}, IsL X.K X.mg A F ws ds → (∀ d ∈ ds, d = .cel k ∨ Gr d) → IsL X.K X.mg [a] F ws (ds.map (unC k))
  | _, _, .nil, _ => .nil
  | _, _, .cons (a := v) (b := d) r t, g => by
    refine .cons ?_ (isL_unC hk t fun e he => g e (List.mem_cons_of_mem _ he))
    rcases g d List.mem_cons_self with h | h
    · subst h
      obtain ⟨b, rfl, e⟩ := is_cel r
      rw [hk] at e
      cases e
      have e2 : unC k (.cel k) = .cel 0 := by simp [unC]
      rw [e2]
      exact .cel rfl
    · rw [gr_unC h]
      exact r.gr h
theorem sp_bag {k : Nat} (s : StOk X O F A H σ Γ vs T M) (lf : Lift X W O vs T R) (p : IsL X.K X.mg A F ws ds) (h : cBag k S Γ ds M K R) : spOf X.K X.mg S ws H (Post X O σ Γ vs T K) (WE W σ) := by
  obtain ⟨mo, hm, gm, g, h⟩ := h
  obtain ⟨a, ha⟩ : ∃ a, A[k]? = some a := ⟨_, List.getElem?_eq_getElem (by rw [s.len]; exact (List.getElem?_eq_some_iff.mp hm).1)⟩
  refine ⟨F, [a], [mo], ds.map (unC k), _, _, s.mem1 ha hm gm, isL_unC ha p g, h, ?_, ?_⟩
  · rintro d Mc ⟨m', rfl, gm', gd, kk⟩ v F' A' H' w m i
    obtain ⟨q, rfl⟩ := len1 m
    have e : a = q := by
      have := w.pre
      simpa using this
    subst e
    exact ⟨d, M.set k m', F', A, (s.after1 ha hm w m gm').push (i.gr gd), kk⟩
  · rintro x Mc ⟨m', rfl, gm', gx, kk⟩ cls dd F' A' H' w m i
    obtain ⟨q, rfl⟩ := len1 m
    have e : a = q := by
      have := w.pre
      simpa using this
    subst e
    exact lf x σ Γ (M.set k m') F' A H' cls dd (s.after1 ha hm w m gm') (i.gr gx) kk
theorem sp_whole (s : StOk X O F A H σ Γ vs T M) (lf : Lift X W O vs T R) (p : IsL X.K X.mg A F ws ds) (h : cWhole S Γ ds M K R) : spOf X.K X.mg S ws H (Post X O σ Γ vs T K) (WE W σ) := by
  refine ⟨F, A, M, ds, _, _, s.memW, p, h, ?_, ?_⟩
  · intro d M' k v F' A' H' w m i
    obtain ⟨N, rfl⟩ := w.pre
    exact ⟨d, M', F', A ++ N, (s.afterW w m).push i, k⟩
  · intro x M' k cls dd F' A' H' w m i
    obtain ⟨N, rfl⟩ := w.pre
    exact lf x σ Γ M' F' (A ++ N) H' cls dd (s.afterW w m) i k
end
section
variable {X : Cx} {O : Org} {F : Hp} {A : List Addr} {H : Hp} {σ : L2.St} {Γ : G} {vs : List V} {T : List D} {M : MM} {R : Rx} {W : WX}
theorem StOk.pushL {ws : List V} {ds : List D} (s : StOk X O F A H σ Γ vs T M) (p : IsL X.K X.mg A F ws ds) : StOk X O F A H σ Γ (ws ++ vs) (ds ++ T) M :=
  ⟨s.exF, s.exH, s.nw, s.pre, s.keep, s.frs, s.nd, s.inH, s.len, s.cells, s.sl, s.slot, Paired.app p s.tmp⟩
theorem pairL {K : PySem.W.Frag} {mg : Str → Option Value} : ∀ {ws vs : List V} {ds T : List D}, ws.length = ds.length → IsL K mg A F (ws ++ vs) (ds ++ T) → IsL K mg A F ws ds ∧ IsL K mg A F vs T
  | [], _, [], _, _, h => ⟨.nil, h⟩
  | [], _, _ :: _, _, e, _ => nomatch e
  | _ :: _, _, [], _, e, _ => nomatch e
  | w :: ws, vs, d :: ds, T, e, h => by
    cases h with
    | cons r t =>
      obtain ⟨h1, h2⟩ := pairL (by simpa using e) t
      exact ⟨.cons r h1, h2⟩
theorem StOk.popL {ws : List V} {ds : List D} (e : ws.length = ds.length) (s : StOk X O F A H σ Γ (ws ++ vs) (ds ++ T) M) : StOk X O F A H σ Γ vs T M ∧ IsL X.K X.mg A F ws ds :=
  ⟨⟨s.exF, s.exH, s.nw, s.pre, s.keep, s.frs, s.nd, s.inH, s.len, s.cells, s.sl, s.slot, (pairL e s.tmp).2⟩, (pairL e s.tmp).1⟩
theorem Lift.popL {ws : List V} {ds : List D} (e : ws.length = ds.length) (h : Lift X W O vs T R) : Lift X W O (ws ++ vs) (ds ++ T) R :=
  fun x σ Γ M F A H cls d' s xi r => h x σ Γ M F A H cls d' (s.popL e).1 xi r
end
/-- a way to hand over -/
abbrev CK := G → List D → MM → Kd → Rx → Prop
structure CallK (X : Cx) (S : DSpec) (c : CK) : Prop where
  go : ∀ {O F A H σ Γ vs T M K R W ws ds}, StOk X O F A H σ Γ vs T M → Lift X W O vs T R → IsL X.K X.mg A F ws ds → c Γ ds M K R → spOf X.K X.mg S ws H (Post X O σ Γ vs T K) (WE W σ)
theorem ck_pure {X : Cx} {S : DSpec} : CallK X S (cPure S) := ⟨sp_pure⟩
theorem ck_new {X : Cx} {S : DSpec} : CallK X S (cNew S) := ⟨sp_new⟩
theorem ck_bag {X : Cx} {S : DSpec} (k : Nat) : CallK X S (cBag k S) := ⟨sp_bag⟩
theorem ck_whole {X : Cx} {S : DSpec} : CallK X S (cWhole S) := ⟨sp_whole⟩
/-- f(e, ..), dv the defaults that fill up -/
def dFn (c : CK) (dv : List D) (t : DA) : DE := fun Γ M K R => t Γ M (fun ds M1 => c Γ (ds ++ dv) M1 K R) R
/-- f(): no exception leaves -/
def dFn0 (c : CK) (dv : List D) : DE := fun Γ M K _ => c Γ dv M K (fun _ _ _ => False)
theorem lift0 {X : Cx} {O : Org} {vs : List V} {T : List D} : Lift X (fun _ _ _ _ => False) O vs T (fun _ _ _ => False) := fun _ _ _ _ _ _ _ _ _ _ _ h => h
section
variable {X : Cx} {k : Nat} {f : Addr} {fd : FuncData} {ps : List Str} {S : DSpec} {c : CK} {x : Str} {p pos : Pos} {e : Expr} {es : List Expr} {t : DA} {dV : List Value} {dvs : List V} {dv : List D}
theorem se_fn (Fn : FnD X k f fd ps S) (ck : CallK X S c) (hr : Room k X.A) (hm : X.mg x = some (.ref f)) (hk : PySem.W.keepIn X.K (.ref f) = true) (hb : Binds X.K fd ps dV) (hd : Vals dvs dV) (hD : ∀ A F, IsL X.K X.mg A F dvs dv) (sa : SA X (e :: es) t) (hg : Gl X x := by rfl)
    (hdb : (x == ("__debug__" : Str)) = false := by decide) (he : starEach (e :: es) X.env = (false, eval e X.env) :: starEach es X.env := by rfl) (hpl : (backTo pos (starEach es X.env)).any (·.1) = false := by rfl) : SE X (.Call (.Name x p) (e :: es) [] pos) (dFn c dv t) := fun W tk O F A H σ Γ vs T M K R s lf h =>
  bE_of (pe_callSD Fn hr hg hm hk hb hd (fun σ => passAt tk σ) bA_ok hdb he hpl) (bA_mono (sa W tk O F A H σ Γ vs T M _ R s lf h) fun ws H1 ⟨ds, M1, F1, A1, s1, q, k⟩ => ck.go s1 lf (Paired.app q (hD _ _)) k)
theorem se_fn0 (Fn : FnD X k f fd ps S) (ck : CallK X S c) (hr : Room k X.A) (hm : X.mg x = some (.ref f)) (hk : PySem.W.keepIn X.K (.ref f) = true) (hb : Binds X.K fd ps dV) (hd : Vals dvs dV) (hD : ∀ A F, IsL X.K X.mg A F dvs dv) (hg : Gl X x := by rfl)
    (hdb : (x == ("__debug__" : Str)) = false := by decide) : SE X (.Call (.Name x p) [] [] pos) (dFn0 c dv) := fun W tk O F A H σ Γ vs T M K R s lf h =>
  bE_of (pe_call0 (E := E0) Fn hr hg hm hk hb hd passL hdb) (ck.go (W := fun _ _ _ _ => False) s lift0 (hD _ _) h)
end
/-! ### .. with keywords -/
structure BK (X : Cx) (kws : List Keyword) (σ : L2.St) (H : Hp) (Q : List V → Hp → Prop) : Prop where
  go : ∀ (pos : Pos) pins s, Inv X pins σ H s → wpAny (model X.prog X.w) X.A (evalAll ((backToKw pos (keywordEach kws X.env)).map (·.2))) (AP X pins σ Q) X.xe s
abbrev bK (X : Cx) (kws : List Keyword) : TA := fun σ H Q => BK X kws σ H Q
theorem bK_ok {X : Cx} {kws : List Keyword} : PK X kws (bK X kws) := ⟨fun pos pins s _ _ _ I h => h.go pos pins s I⟩
theorem bK_of {X : Cx} {kws : List Keyword} {t : TA} {σ : L2.St} {H : Hp} {Q : List V → Hp → Prop} (h : PK X kws t) (q : t σ H Q) : bK X kws σ H Q := ⟨fun pos pins s I => h.run pos pins s σ H Q I q⟩
theorem bK_mono {X : Cx} {kws : List Keyword} {σ : L2.St} {H : Hp} {Q Q' : List V → Hp → Prop} (h : bK X kws σ H Q) (q : ∀ v H', Q v H' → Q' v H') : bK X kws σ H Q' := ⟨fun pos pins s I =>
  thn (h.go pos pins s I) fun _ _ ⟨v, H', I', r, z⟩ => ⟨v, H', I', r, q v H' z⟩⟩
def SK (X : Cx) (kws : List Keyword) (t : DA) : Prop := ∀ (W : WX), Takes X W → ∀ O F A H σ Γ vs T M K R, StOk X O F A H σ Γ vs T M → Lift X W O vs T R → t Γ M K R → bK X kws σ H (PostA X O σ Γ vs T K)
section
variable {X : Cx} {k n : Nat} {f : Addr} {fd : FuncData} {ps ks : List Str} {S : DSpec} {c : CK} {x : Str} {p pos kpos : Pos} {e : Expr} {es : List Expr} {kws : List Keyword} {te : DE} {t u : DA} {nm : Option Str} {g : List Value → List Value → List Value} {gV : List V → List V → List V} {gD : List D → List D → List D}
theorem sk_nil : SK X [] aNil := fun W tk O F A H σ Γ vs T M K R s lf k => bK_of pk_nil ⟨[], M, F, A, s, .nil, k⟩
theorem sk_cons (sa : SE X e te) (sr : SK X kws u) : SK X (⟨nm, e, kpos⟩ :: kws) (aCons te u) := fun W tk O F A H σ Γ vs T M K R s lf h =>
  bK_of (pk_cons bE_ok bK_ok) (bE_mono (sa W tk O F A H σ Γ vs T M _ R s lf h) fun v H1 ⟨d, M1, F1, A1, s1, k1⟩ =>
    bK_mono (sr W tk O F1 A1 H1 σ Γ (v :: vs) (d :: T) M1 _ R s1 lf.pop k1) fun ws H2 ⟨ds, M2, F2, A2, s2, p, k2⟩ => ⟨d :: ds, M2, F2, A2, s2.pop, .cons s2.top p, k2⟩)
/-- f(e, .., k = v, ..): gD puts the data in the parameters' order -/
def dFnK (c : CK) (gD : List D → List D → List D) (n m : Nat) (t u : DA) : DE := fun Γ M K R => t Γ M (fun ds M1 => u Γ M1 (fun es M2 => ds.length = n ∧ es.length = m ∧ c Γ (gD ds es) M2 K R) R) R
theorem run_fnNS {CX : CXT} {sp : Sp} {E : L2.St → XK} {σ : L2.St} {pins : List (Addr × Obj)} {H : Hp} {s : Shared} {Q : VK} {us ws : List Value} {vs zs : List V} (F : FnOk X.prog X.w X.K X.mg X.base CX k f fd ps sp) (hr : Room k X.A) (hb : KBn X.K fd ps n ks g gV) (hx : PassesAt CX X σ (E σ))
    (I : Inv X pins σ H s) (r : Vals vs us) (rz : Vals zs ws) (l1 : vs.length = n) (l2 : zs.length = ks.length) (h : sp (gV vs zs) H Q (E σ)) : wpAny (model X.prog X.w) X.A (call (.ref f) us (ks.zip ws)) (EP X pins σ Q) X.xe s := by
  have r2 := hb.rel r rz
  refine wpAny_call (codeAny_mono (F.run X.A X.stack s H ⟨us, ks.zip ws⟩ (g us ws) (gV vs zs) Q (E σ) hr I.env0 (hb.to s us ws I.kIn (r.length.symm.trans l1) (rz.length.symm.trans l2)) r2 h) fun r s' hq => ?_)
  cases r with
  | error e => exact hx pins H s e s' I hq
  | ok fl =>
    cases fl with
    | ret u => exact I.after hq
    | next => exact False.elim hq
    | brk => exact False.elim hq
    | cont => exact False.elim hq
theorem pe_callNS {CX : CXT} {sp : Sp} {E : L2.St → XK} {t tk : TA} (F : FnOk X.prog X.w X.K X.mg X.base CX k f fd ps sp) (hr : Room k X.A) (hg : Gl X x) (hm : X.mg x = some (.ref f)) (hk : PySem.W.keepIn X.K (.ref f) = true) (hb : KBn X.K fd ps n ks g gV) (hx : ∀ σ, PassesAt CX X σ (E σ))
    (ha : PA X es t) (hkw : PK X kws tk) (hall : (backToKw pos (keywordEach kws X.env)).all (·.1.isSome) = true) (hks : (backToKw pos (keywordEach kws X.env)).filterMap (·.1) = ks)
    (hdb : (x == ("__debug__" : Str)) = false) (he : ∃ e r, es = e :: r ∧ starEach (e :: r) X.env = (false, eval e X.env) :: starEach r X.env)
    (hpl : ((backTo pos (starEach es X.env)).any (·.1) || (backToKw pos (keywordEach kws X.env)).any (·.1.isNone)) = false) :
    PE X (.Call (.Name x p) es kws pos) (fun σ H Q => t σ H fun vs H1 => tk σ H1 fun zs H2 => vs.length = n ∧ zs.length = ks.length ∧ sp (gV vs zs) H2 Q (E σ)) := by
  obtain ⟨e, r, rfl, he⟩ := he
  refine ⟨fun pins s σ H Q I h => ?_⟩
  refine wpAny_Call_Name_kw (ld_glob I hg hm ?_ hdb)
  refine PySem.W.callWith_KW (h₀ := X.base) I.ok.mod.kin hk hall (thn (ha.run pos pins s σ H _ I h) fun us s1 ⟨vs, H1, I1, r, q⟩ => ?_) hpl he
  refine thn (hkw.run pos pins s1 σ H1 _ I1 q) fun ws s2 ⟨zs, H2, I2, rz, l1, l2, q2⟩ => ⟨I2.kIn, ?_⟩
  rw [hks]
  exact run_fnNS F hr hb (hx σ) I2 r rz l1 l2 q2
theorem se_fnK (Fn : FnD X k f fd ps S) (ck : CallK X S c) (hr : Room k X.A) (hm : X.mg x = some (.ref f)) (hk : PySem.W.keepIn X.K (.ref f) = true) (hb : KBn X.K fd ps n ks g gV) (hD : ∀ {A F vs zs ds es}, IsL X.K X.mg A F vs ds → IsL X.K X.mg A F zs es → IsL X.K X.mg A F (gV vs zs) (gD ds es)) (sa : SA X (e :: es) t) (sk : SK X kws u)
    (hg : Gl X x := by rfl) (hall : (backToKw pos (keywordEach kws X.env)).all (·.1.isSome) = true := by rfl) (hks : (backToKw pos (keywordEach kws X.env)).filterMap (·.1) = ks := by rfl)
    (hdb : (x == ("__debug__" : Str)) = false := by decide) (he : starEach (e :: es) X.env = (false, eval e X.env) :: starEach es X.env := by rfl)
    (hpl : ((backTo pos (starEach (e :: es) X.env)).any (·.1) || (backToKw pos (keywordEach kws X.env)).any (·.1.isNone)) = false := by rfl) : SE X (.Call (.Name x p) (e :: es) kws pos) (dFnK c gD n ks.length t u) := fun W tk O F A H σ Γ vs T M K R s lf h =>
  bE_of (pe_callNS Fn hr hg hm hk hb (fun σ => passAt tk σ) bA_ok bK_ok hall hks hdb ⟨e, es, rfl, he⟩ hpl) (bA_mono (sa W tk O F A H σ Γ vs T M _ R s lf h) fun ws H1 ⟨ds, M1, F1, A1, s1, q, k⟩ => by
    have e := q.len
    refine bK_mono (sk W tk O F1 A1 H1 σ Γ (ws ++ vs) (ds ++ T) M1 _ R (s1.pushL q) (lf.popL e) k) fun zs H2 ⟨ds2, M2, F2, A2, s2, q2, l1, l2, k2⟩ => ?_
    obtain ⟨s3, q3⟩ := s2.popL e
    exact ⟨e.trans l1, q2.len.trans l2, ck.go s3 lf (hD q3 q2) k2⟩)
end
end L3

namespace L3
open PySem PySem.Spec PyProof.Rows L2 Evl
open Classical

/-! ### statements -/
structure DEnds where
  nx : G → MM → Prop
  rt : Kd
  rz : Rx
  bk : G → MM → Prop := fun _ _ => False
  ct : G → MM → Prop := fun _ _ => False
abbrev DS := DEnds → G → MM → Prop
def Nxt (X : Cx) (O : Org) (vs : List V) (T : List D) (N : G → MM → Prop) : L2.St → Hp → Prop := fun σ' H' => ∃ Γ' M' F' A', StOk X O F' A' H' σ' Γ' vs T M' ∧ N Γ' M'
def Rtn (X : Cx) (O : Org) (vs : List V) (T : List D) (K : Kd) : VK := fun v H' => ∃ d M' F' A' σ' Γ', StOk X O F' A' H' σ' Γ' (v :: vs) (d :: T) M' ∧ K d M'
def liftE (X : Cx) (O : Org) (vs : List V) (T : List D) (E : DEnds) : Ends := { nx := Nxt X O vs T E.nx, rt := Rtn X O vs T E.rt, bk := Nxt X O vs T E.bk, ct := Nxt X O vs T E.ct }
def SS' (X : Cx) (st : Stmt) (t : DS) : Prop := ∀ (W : WX), Takes X W → ∀ O F A H σ Γ vs T M E, StOk X O F A H σ Γ vs T M → Lift X W O vs T E.rz → t E Γ M → bS X st (liftE X O vs T E) σ H
def SB (X : Cx) (st : List Stmt) (t : DS) : Prop := ∀ (W : WX), Takes X W → ∀ O F A H σ Γ vs T M E, StOk X O F A H σ Γ vs T M → Lift X W O vs T E.rz → t E Γ M → bB X st (liftE X O vs T E) σ H
section
variable {X : Cx} {O : Org} {F : Hp} {A : List Addr} {H : Hp} {σ : L2.St} {Γ : G} {vs : List V} {T : List D} {M : MM}
theorem StOk.set (s : StOk X O F A H σ Γ vs T M) (i : Nat) {v : V} {d : D} (h : Is X.K X.mg A F v d) : StOk X O F A H (σ.set i (some v)) (Γ.set i (some d)) vs T M := by
  refine ⟨s.exF, s.exH, s.nw, s.pre, s.keep, s.frs, s.nd, s.inH, s.len, s.cells, by rw [List.length_set, List.length_set]; exact s.sl, fun j e q => ?_, s.tmp⟩
  by_cases hj : i = j
  · subst hj
    have hl : i < Γ.length := by
      have := (List.getElem?_eq_some_iff.mp q).1
      rwa [List.length_set] at this
    rw [List.getElem?_set_self hl] at q
    cases q
    exact ⟨v, List.getElem?_set_self (by rw [s.sl]; exact hl), h⟩
  · rw [List.getElem?_set_ne hj] at q
    obtain ⟨w, h1, h2⟩ := s.slot j e q
    exact ⟨w, by rw [List.getElem?_set_ne hj]; exact h1, h2⟩
/-- a slot forgotten -/
theorem StOk.unset (s : StOk X O F A H σ Γ vs T M) (i : Nat) {o : Option V} : StOk X O F A H (σ.set i o) (Γ.set i none) vs T M := by
  refine ⟨s.exF, s.exH, s.nw, s.pre, s.keep, s.frs, s.nd, s.inH, s.len, s.cells, by rw [List.length_set, List.length_set]; exact s.sl, fun j e q => ?_, s.tmp⟩
  by_cases hj : i = j
  · subst hj
    have hl : i < Γ.length := by
      have := (List.getElem?_eq_some_iff.mp q).1
      rwa [List.length_set] at this
    rw [List.getElem?_set_self hl] at q
    cases q
  · rw [List.getElem?_set_ne hj] at q
    obtain ⟨w, h1, h2⟩ := s.slot j e q
    exact ⟨w, by rw [List.getElem?_set_ne hj]; exact h1, h2⟩
end
def dNext : DS := fun E Γ M => E.nx Γ M
def dSeq (t u : DS) : DS := fun E Γ M => t { E with nx := u E } Γ M
def dRet (t : DE) : DS := fun E Γ M => t Γ M E.rt E.rz
def dRetN : DS := fun E _ M => E.rt .non M
def dDrop (t : DE) : DS := fun E Γ M => t Γ M (fun _ M1 => E.nx Γ M1) E.rz
def dSet (i : Nat) (t : DE) : DS := fun E Γ M => t Γ M (fun d M1 => E.nx (Γ.set i (some d)) M1) E.rz
def dIfS (c : DT) (t u : DS) : DS := fun E Γ M => c Γ M (fun b M1 => if b = true then t E Γ M1 else u E Γ M1) E.rz
def dBrk : DS := fun E Γ M => E.bk Γ M
def dCnt : DS := fun E Γ M => E.ct Γ M
def dNever : DS := fun _ _ _ => False
/-- a, b = x, y -/
def dPar (i j : Nat) (t : DA) : DS := fun E Γ M => t Γ M (fun ds M1 => match ds with
  | [a, b] => E.nx ((Γ.set i (some a)).set j (some b)) M1
  | _ => False) E.rz
section
variable {X : Cx} {st : Stmt} {rest : List Stmt} {e c : Expr} {es : List Expr} {t u : DS} {te : DE} {tc : DT} {ta : DA} {pos pos' : Pos} {a b : List Stmt}
theorem sb_nil : SB X [] dNext := fun W tk O F A H σ Γ vs T M E s lf h => bB_of pss_nil ⟨Γ, M, F, A, s, h⟩
theorem sb_one (hs : SS' X st t) : SB X [st] t := fun W tk O F A H σ Γ vs T M E s lf h => bB_of (pss_one bS_ok) (hs W tk O F A H σ Γ vs T M E s lf h)
theorem bS_mono {D D' : Ends} (h : bS X st D σ H) (q : ∀ σ H, D.nx σ H → D'.nx σ H) (q2 : ∀ v H, D.rt v H → D'.rt v H) (q3 : ∀ σ H, D.bk σ H → D'.bk σ H) (q4 : ∀ σ H, D.ct σ H → D'.ct σ H) : bS X st D' σ H := ⟨fun pins s I => by
  refine thn (h.go pins s I) fun f s' hf => ?_
  cases f with
  | next => obtain ⟨σ', H', I', z⟩ := hf; exact ⟨σ', H', I', q _ _ z⟩
  | brk => obtain ⟨σ', H', I', z⟩ := hf; exact ⟨σ', H', I', q3 _ _ z⟩
  | cont => obtain ⟨σ', H', I', z⟩ := hf; exact ⟨σ', H', I', q4 _ _ z⟩
  | ret u => obtain ⟨v, σ', H', I', r, z⟩ := hf; exact ⟨v, σ', H', I', r, q2 _ _ z⟩⟩
theorem sb_cons (hs : SS' X st t) (hr : SB X rest u) : SB X (st :: rest) (dSeq t u) := fun W tk O F A H σ Γ vs T M E s lf h =>
  bB_of (pss_cons bS_ok bB_ok) (bS_mono (hs W tk O F A H σ Γ vs T M { E with nx := u E } s lf h) (fun σ1 H1 ⟨Γ1, M1, F1, A1, s1, k⟩ => hr W tk O F1 A1 H1 σ1 Γ1 vs T M1 E s1 lf k) (fun _ _ q => q) (fun _ _ q => q) fun _ _ q => q)
theorem ss_ret (sa : SE X e te) : SS' X (.Return (some e) pos) (dRet te) := fun W tk O F A H σ Γ vs T M E s lf h =>
  bS_of (ps_ret bE_ok) (bE_mono (sa W tk O F A H σ Γ vs T M _ _ s lf h) fun v H1 ⟨d, M1, F1, A1, s1, k⟩ => ⟨d, M1, F1, A1, σ, Γ, s1, k⟩)
theorem ss_retN : SS' X (.Return none pos) dRetN := fun W tk O F A H σ Γ vs T M E s lf h => bS_of ps_retN ⟨.non, M, F, A, σ, Γ, s.push .non, h⟩
theorem ss_expr (sa : SE X e te) (hs : swapsWith e none pos.line X.env = pure false := by rfl) : SS' X (.Expr e pos) (dDrop te) := fun W tk O F A H σ Γ vs T M E s lf h =>
  bS_of (ps_expr bE_ok hs) (bE_mono (sa W tk O F A H σ Γ vs T M _ _ s lf h) fun v H1 ⟨d, M1, F1, A1, s1, k⟩ => ⟨Γ, M1, F1, A1, s1.pop, k⟩)
theorem ss_set {i : Nat} {x : Str} (hN : X.N.Nodup) (sa : SE X e te) (hi : X.N[i]? = some x := by rfl) (hx : Loc X.env.scope x := by first | exact .inl rfl | exact .inr rfl) (hs : swapsWith e (some (.Name x pos')) pos.line X.env = pure false := by rfl)
    (hf : X.fn x = true ∨ X.env.scope.names.lookup x = some .local := by first | exact .inl rfl | exact .inr rfl) : SS' X (.Assign [.Name x pos'] e pos) (dSet i te) := fun W tk O F A H σ Γ vs T M E s lf h =>
  bS_of (ps_set (i := i) hN hi hx bE_ok hs hf) (bE_mono (sa W tk O F A H σ Γ vs T M _ _ s lf h) fun v H1 ⟨d, M1, F1, A1, s1, k⟩ => ⟨Γ.set i (some d), M1, F1, A1, s1.pop.set i s1.top, k⟩)
theorem ss_if (sc : ST X c tc) (sa : SB X a t) (sb : SB X b u) : SS' X (.If c a b pos) (dIfS tc t u) := fun W tk O F A H σ Γ vs T M E s lf h =>
  bS_of (ps_if bT_ok bB_ok bB_ok) (bT_mono (sc W tk O F A H σ Γ vs T M _ _ s lf h) fun q H1 ⟨M1, F1, A1, s1, k⟩ => by
    cases q with
    | true => exact sa W tk O F1 A1 H1 σ Γ vs T M1 E s1 lf k
    | false => exact sb W tk O F1 A1 H1 σ Γ vs T M1 E s1 lf k)
theorem ss_pass : SS' X (.Pass pos) dNext := fun W tk O F A H σ Γ vs T M E s lf h => bS_of ps_pass ⟨Γ, M, F, A, s, h⟩
theorem ss_brk : SS' X (.Break pos) dBrk := fun W tk O F A H σ Γ vs T M E s lf h => bS_of ps_break ⟨Γ, M, F, A, s, h⟩
theorem ss_cnt : SS' X (.Continue pos) dCnt := fun W tk O F A H σ Γ vs T M E s lf h => bS_of ps_continue ⟨Γ, M, F, A, s, h⟩
theorem ss_never : SS' X st dNever := fun W tk O F A H σ Γ vs T M E s lf h => h.elim
theorem ss_par {i j : Nat} {x y : Str} {a b : Expr} {px py pt : Pos} {kt k2 : Nat} {pt2 : Pos} (hN : X.N.Nodup) (sa : SA X [a, b] ta) (hw : swappedStores [.Tuple [.Name x px, .Name y py] kt pt] (.Tuple [a, b] k2 pt2) X.env = pure (some [x, y]) := by rfl) (hc : X.calm = true := by rfl)
    (hi : X.N[i]? = some x := by rfl) (hj : X.N[j]? = some y := by rfl) (hij : i ≠ j := by decide) (hx : X.env.scope.names.lookup x = some .local := by rfl) (hy : X.env.scope.names.lookup y = some .local := by rfl)
    (hs : swapsWithSole [.Tuple [.Name x px, .Name y py] kt pt] (.Tuple [a, b] k2 pt2) pos.line X.env = pure false := by rfl) : SS' X (.Assign [.Tuple [.Name x px, .Name y py] kt pt] (.Tuple [a, b] k2 pt2) pos) (dPar i j ta) := fun W tk O F A H σ Γ vs T M E s lf h =>
  bS_of (ps_par (i := i) (j := j) hc hN hi hj hij hx hy bA_ok hw hs) (bA_mono (sa W tk O F A H σ Γ vs T M _ _ s lf h) fun ws H1 ⟨ds, M1, F1, A1, s1, p, k⟩ => by
    match ds, p, k with
    | [d1, d2], .cons r1 (.cons r2 .nil), k => exact ⟨_, _, rfl, _, M1, F1, A1, (s1.set i r1).set j r2, k⟩)
end

/-! ### augmented -/
def bIp (X : Cx) (op : Operator) : TIp := fun x y H Q => ∀ pins s σ v u, Inv X pins σ H s → RelV x v → RelV y u → wpAny (model X.prog X.w) X.A (inplaceOp op v u) (EP X pins σ Q) X.xe s
theorem bIp_ok {X : Cx} {op : Operator} : PIp X op (bIp X op) := fun pins s σ _ _ _ v u _ I r1 r2 h => h pins s σ v u I r1 r2
def dAug (i : Nat) (r : DO2) (t : DE) : DS := fun E Γ M => ∃ d, Γ[i]? = some (some d) ∧ t Γ M (fun d2 M1 => r d d2 M1 (fun d3 M2 => E.nx (Γ.set i (some d3)) M2)) E.rz
section
variable {X : Cx} {e : Expr} {te : DE} {pos pos' : Pos} {op : Operator} {r : DO2}
theorem ss_aug {i : Nat} {x : Str} (hN : X.N.Nodup) (ho : OpD X (inplaceOp op) r) (sa : SE X e te) (hi : X.N[i]? = some x := by rfl) (hx : Loc X.env.scope x := by first | exact .inl rfl | exact .inr rfl)
    (hf : X.fn x = true ∨ X.env.scope.names.lookup x = some .local := by first | exact .inl rfl | exact .inr rfl) : SS' X (.AugAssign (.Name x pos') op e pos) (dAug i r te) := fun W tk O F A H σ Γ vs T M E s lf h => by
  obtain ⟨d, hd, h⟩ := h
  obtain ⟨v, hv, iv⟩ := s.slot i d hd
  refine bS_of (ps_aug (i := i) hN hi hx bE_ok bIp_ok hf) ⟨v, hv, ?_⟩
  refine bE_mono (sa W tk O F A H σ Γ (v :: vs) (d :: T) M _ _ (s.push iv) lf.pop h) fun y H1 ⟨d2, M1, F1, A1, s1, k⟩ => ?_
  have q := ho O F1 A1 H1 σ Γ vs T M1 _ v y d d2 s1.pop.pop s1.pop.top s1.top k
  intro pins s σ' v' u I r1 r2
  exact thn (q.go pins s σ' v' u I r1 r2) fun z s' ⟨w, H', I', rw', d3, M2, F2, A2, s2, k2⟩ => ⟨w, H', I', rw', Γ.set i (some d3), M2, F2, A2, s2.pop.set i s2.top, k2⟩
def rIAddD : DO2 := fun x y M K => match x, y with
  | .int i, .int j => K (.int (i + j)) M
  | .str a, .str b => a.length + b.length ≤ 16777216 ∧ K (.str (a ++ b)) M
  | _, _ => False
theorem opd_iadd : OpD X (inplaceOp .Add) rIAddD := by
  intro O F A H σ Γ vs T M K v1 v2 d1 d2 s i1 i2 h
  cases d1 with
  | int i =>
    cases d2 with
    | int j =>
      rw [is_int i1, is_int i2]
      exact bO_of iop_add ⟨i, j, rfl, rfl, post_c s (.int _) h⟩
    | _ => exact h.elim
  | str a =>
    cases d2 with
    | str b =>
      obtain ⟨hz, k⟩ := h
      have a1 := is_asc i1
      have a2 := is_asc i2
      rw [is_str i1, is_str i2]
      refine bO_of iop_add_str ⟨SS a, SS b, rfl, rfl, ?_, ?_⟩
      · rw [len_SS, len_SS, sizeLine_eq]
        exact hz
      · rw [app_SS]
        exact post_c s (.str _ (a1.app a2)) k
    | _ => exact h.elim
  | _ => exact h.elim
theorem opd_isub : OpD X (inplaceOp .Sub) rSubD := by
  intro O F A H σ Γ vs T M K v1 v2 d1 d2 s i1 i2 h
  cases d1 with
  | int i =>
    cases d2 with
    | int j =>
      rw [is_int i1, is_int i2]
      exact bO_of iop_sub ⟨i, j, rfl, rfl, post_c s (.int _) h⟩
    | _ => exact h.elim
  | _ => exact h.elim
end

/-! ### a changing object changes -/
section
variable {X : Cx} {O : Org} {F : Hp} {A : List Addr} {H : Hp} {σ : L2.St} {Γ : G} {vs : List V} {T : List D} {M : MM}
theorem StOk.mut {k : Nat} {a : Addr} {m' : MO} {o : HO} (s : StOk X O F A H σ Γ vs T M) (ha : A[k]? = some a) (hF : F a = none) (hm' : MoIs X.K X.mg A F (upd H a o) a m') : StOk X O F A (upd H a o) σ Γ vs T (M.set k m') := by
  have hk : k < A.length := (List.getElem?_eq_some_iff.mp ha).1
  have hin : a ∈ A := List.mem_of_getElem? ha
  refine ⟨s.exF, fun b u e => ?_, s.nw, s.pre, fun b u hb e => ?_, s.frs, s.nd, fun b hb => ?_, by rw [List.length_set]; exact s.len, fun j b mo e1 e2 => ?_, s.sl, s.slot, s.tmp⟩
  · rw [upd_ne (fun z => by rw [z, hF] at e; cases e)]
    exact s.exH b u e
  · have hne : b ≠ a := fun z => by
      subst z
      have := s.frs b hin hb
      rw [e] at this
      cases this
    rw [upd_ne hne]
    exact s.keep b u hb e
  · by_cases z : b = a
    · rw [z, upd_same]
      simp
    · rw [upd_ne z]
      exact s.inH b hb
  · by_cases hj : k = j
    · subst hj
      rw [List.getElem?_set_self (by rw [← s.len]; exact hk)] at e2
      cases e2
      rw [ha] at e1
      cases e1
      exact hm'
    · rw [List.getElem?_set_ne hj] at e2
      have hne : b ≠ a := fun z => by
        subst z
        obtain ⟨p1, p2⟩ := List.getElem?_eq_some_iff.mp e1
        obtain ⟨q1, q2⟩ := List.getElem?_eq_some_iff.mp ha
        exact hj ((List.getElem_inj s.nd).mp (q2.trans p2.symm))
      exact (s.cells j b mo e1 e2).mono (Ex.refl _) (List.prefix_refl _) (fun z => z) (upd_ne hne)
/-- a changing list is frozen as it is -/
theorem StOk.frz {k : Nat} {l : List D} (s : StOk X O F A H σ Γ vs T M) (hm : M[k]? = some (.ls l)) : ∃ a F', A[k]? = some a ∧ StOk X O F' A H σ Γ vs T (M.set k .dead) ∧ Is X.K X.mg A F' (.ref a) (.ls l) := by
  have hk : k < A.length := by rw [s.len]; exact (List.getElem?_eq_some_iff.mp hm).1
  obtain ⟨a, ha⟩ : ∃ a, A[k]? = some a := ⟨_, List.getElem?_eq_getElem hk⟩
  obtain ⟨hF, xs, hH, p⟩ := s.cells k a _ ha hm
  have hin : a ∈ A := List.mem_of_getElem? ha
  have ex : Ex F (upd F a (.lst xs)) := Ex.new hF
  refine ⟨a, upd F a (.lst xs), ha, ⟨s.exF.trans ex, fun b u e => ?_, fun b u e => ?_, s.pre, s.keep, s.frs, s.nd, s.inH, by rw [List.length_set]; exact s.len, fun j b mo e1 e2 => ?_, s.sl, fun i d e => ?_, s.tmp.mono ex (List.prefix_refl _)⟩, Is.lsL upd_same (p.mono ex (List.prefix_refl _))⟩
  · by_cases z : b = a
    · subst z
      rw [upd_same] at e
      rw [hH, e]
    · rw [upd_ne z] at e
      exact s.exH b u e
  · by_cases z : b = a
    · by_cases hO : a ∈ O.A
      · exact .inr (.inr (by rw [z]; exact hO))
      · exact .inr (.inl (by rw [z]; exact s.frs a hin hO))
    · rw [upd_ne z] at e
      exact s.nw b u e
  · by_cases hj : k = j
    · subst hj
      rw [List.getElem?_set_self (by rw [← s.len]; exact hk)] at e2
      cases e2
      trivial
    · rw [List.getElem?_set_ne hj] at e2
      have hne : b ≠ a := fun z => by
        subst z
        obtain ⟨p1, p2⟩ := List.getElem?_eq_some_iff.mp e1
        obtain ⟨q1, q2⟩ := List.getElem?_eq_some_iff.mp ha
        exact hj ((List.getElem_inj s.nd).mp (q2.trans p2.symm))
      exact (s.cells j b mo e1 e2).mono ex (List.prefix_refl _) (fun z => by rw [upd_ne hne]; exact z) rfl
  · obtain ⟨v, h1, h2⟩ := s.slot i d e
    exact ⟨v, h1, h2.mono ex (List.prefix_refl _)⟩
end
/-- the changing list at slot i, frozen -/
def dFrz (i : Nat) : DE := fun Γ M K _ => ∃ k l, Γ[i]? = some (some (.cel k)) ∧ M[k]? = some (.ls l) ∧ K (.ls l) (M.set k .dead)
theorem se_frz {X : Cx} {pos : Pos} (i : Nat) {x : Str} (hN : X.N[i]? = some x := by rfl) (hv : Vis X.env.scope x := by first | exact Or.inl rfl | exact Or.inr (Or.inl rfl) | exact Or.inr (Or.inr rfl)) (hd : (x == ("__debug__" : Str)) = false := by decide)
    (hcd : (x == ("__classdict__" : Str)) = false := by decide) : SE X (.Name x pos) (dFrz i) := by
  intro W tk O F A H σ Γ vs T M K R s lf h
  obtain ⟨k, l, e1, e3, kk⟩ := h
  obtain ⟨v, e2, is⟩ := s.slot i _ e1
  obtain ⟨a, F', ha, s', is'⟩ := s.frz e3
  obtain ⟨b, rfl, hb⟩ := is_cel is
  rw [ha] at hb
  cases hb
  exact bE_of (pe_var hN hv hd hcd) ⟨_, e2, .ls l, M.set k .dead, F', A, s'.push is', kk⟩
/-- xs[i] = e of a changing list -/
def dSetIx (to ti te : DE) : DS := fun E Γ M => te Γ M (fun d M1 => to Γ M1 (fun o M2 => ti Γ M2 (fun i M3 => match o, i with
  | .cel k, .int z => ∃ l j, M3[k]? = some (.ls l) ∧ ixN l.length z = some j ∧ E.nx Γ (M3.set k (.ls (l.set j d)))
  | _, _ => False) E.rz) E.rz) E.rz
theorem Paired.st {α β : Type} {R : α → β → Prop} {x : α} {y : β} (r : R x y) : ∀ {l : List α} {m : List β} (n : Nat), Paired R l m → Paired R (l.set n x) (m.set n y)
  | _, _, _, .nil => .nil
  | _, _, 0, .cons _ t => .cons r t
  | _, _, n + 1, .cons q t => .cons q (Paired.st r n t)
def bSet (X : Cx) : TSet := fun o i v H Q => ∃ t, PSet X t ∧ t o i v H Q
theorem bSet_ok {X : Cx} : PSet X (bSet X) := fun pins s σ H o i v ov iv u Q I r1 r2 r3 ⟨t, ht, q⟩ => ht pins s σ H o i v ov iv u Q I r1 r2 r3 q
section
variable {X : Cx} {o i e : Expr} {es : List Expr} {to ti te : DE} {ta : DA} {pos p2 : Pos}
theorem ss_setIx (so : SE X o to) (si : SE X i ti) (sa : SE X e te) (hs : swapsWithSole [.Subscript o i p2] e pos.line X.env = pure false := by rfl) (hw : swappedStores [.Subscript o i p2] e X.env = pure none := by rfl)
    (h1 : (assignEach [.Subscript o i p2] X.env).map (·.2) = [assign (.Subscript o i p2) X.env] := by rfl) (ha : ∀ v, assign (.Subscript o i p2) X.env v = (do
      let ov ← holding [v] (eval o X.env)
      let iv ← holding [v, ov] (eval i X.env)
      standAt p2
      holding [v, ov, iv] (setItem ov iv v)
      release [v, ov, iv] []) := by intro _; rfl) : SS' X (.Assign [.Subscript o i p2] e pos) (dSetIx to ti te) := fun W tk O F A H σ Γ vs T M E s lf h => by
  refine bS_of (ps_asg bE_ok (pg_sub bE_ok bE_ok bSet_ok ha) hs hw h1) ?_
  refine bE_mono (sa W tk O F A H σ Γ vs T M _ _ s lf h) fun v H1 ⟨d, M1, F1, A1, s1, k1⟩ => ?_
  refine bE_mono (so W tk O F1 A1 H1 σ Γ _ _ M1 _ _ s1 lf.pop k1) fun ov H2 ⟨od, M2, F2, A2, s2, k2⟩ => ?_
  refine bE_mono (si W tk O F2 A2 H2 σ Γ _ _ M2 _ _ s2 lf.pop.pop k2) fun iv H3 ⟨id', M3, F3, A3, s3, k3⟩ => ?_
  have i1 := s3.pop.pop.top
  have i2 := s3.pop.top
  have i3 := s3.top
  have s := s3.pop.pop.pop
  cases od with
  | cel k =>
    cases id' with
    | int z =>
      obtain ⟨l, j, hm, hj, kk⟩ := k3
      obtain ⟨a, rfl, ha'⟩ := is_cel i2
      rw [is_int i3]
      obtain ⟨hF, xs, hH, p⟩ := s.cells k a _ ha' hm
      refine ⟨rSetL, set_list, a, xs, z, j, rfl, rfl, hH, by rw [p.len]; exact hj, Γ, M3.set k (.ls (l.set j d)), F3, A3, ?_, kk⟩
      exact s.mut (m' := .ls (l.set j d)) (o := .lst (xs.set j v)) ha' hF ⟨hF, _, upd_same, Paired.st i1 j p⟩
    | _ => exact k3.elim
  | _ => exact k3.elim
/-! ### methods of lists that change them -/
/-- xs.append(e) -/
def dApp (to te : DE) : DE := fun Γ M K R => to Γ M (fun o M1 => match o with
  | .cel k => (∃ l, M1[k]? = some (.ls l)) ∧ te Γ M1 (fun d M2 => ∃ l, M2[k]? = some (.ls l) ∧ l.length < 16777216 ∧ K .non (M2.set k (.ls (l ++ [d])))) R
  | _ => False) R
end
end L3

namespace L3
open PySem PySem.Spec PyProof.Rows L2 Evl
open Classical

/-! ### methods of texts -/
def bM (X : Cx) (id : String) : V → List V → Hp → VK → Prop := fun x xs H Q => ∃ r, MtR X id r ∧ r x xs H Q
theorem bM_ok {X : Cx} {id : String} : MtR X id (bM X id) := fun pins s σ H x xs v us Q I r1 r2 ⟨r, hr, q⟩ => hr pins s σ H x xs v us Q I r1 r2 q
abbrev DM := List Nat → List D → MM → Kd → Prop
def MtD (X : Cx) (id : String) (r : DM) : Prop := ∀ O F A H σ Γ vs T M K ws ds a, StOk X O F A H σ Γ vs T M → Asc a → IsL X.K X.mg A F ws ds → r a ds M K → bM X id (.str (SS a)) ws H (Post X O σ Γ vs T K)
def dM0 (r : DM) (t : DE) : DE := fun Γ M K R => t Γ M (fun d M1 => match d with
  | .str a => r a [] M1 K
  | _ => False) R
def dM (r : DM) (t : DE) (u : DA) : DE := fun Γ M K R => t Γ M (fun d M1 => match d with
  | .str a => u Γ M1 (fun ds M2 => r a ds M2 K) R
  | _ => False) R
section
variable {X : Cx} {o e : Expr} {es : List Expr} {to : DE} {ta : DA} {name : Str} {apos cpos : Pos} {id : String} {r : DM}
theorem se_m0 (slot : Slot "str" name id) (hty : typeOf (.builtin id) = pure (.type "method_descriptor")) (hm : MtD X id r) (so : SE X o to) (hbase : attributeBase o name X.env (eval o X.env) = eval o X.env := by rfl) (hline : (apos.endLine == cpos.line) = true := by rfl) :
    SE X (.Call (.Attribute o name apos) [] [] cpos) (dM0 r to) := fun W tk O F A H σ Γ vs T M K R s lf h =>
  bE_of (pe_bm0 PySem.F.plainAttrs_str slot hty bM_ok bE_ok hbase hline) (bE_mono (so W tk O F A H σ Γ vs T M _ R s lf h) fun v H1 ⟨d, M1, F1, A1, s1, k⟩ => by
    cases d with
    | str a =>
      have ha := is_asc s1.top
      rw [is_str s1.top]
      exact ⟨rfl, hm O F1 A1 H1 σ Γ vs T M1 K [] [] a s1.pop ha .nil k⟩
    | _ => exact k.elim)
theorem se_m (slot : Slot "str" name id) (hty : typeOf (.builtin id) = pure (.type "method_descriptor")) (hm : MtD X id r) (so : SE X o to) (sa : SA X (e :: es) ta) (hbase : attributeBase o name X.env (eval o X.env) = eval o X.env := by rfl)
    (hfew : ((backTo cpos (starEach (e :: es) X.env)).all (fun x => !x.1) && (backToKw cpos (keywordEach [] X.env)).all (fun x => x.1.isSome)
      && decide ((e :: es).length + ([] : List Keyword).length + (if ([] : List Keyword).isEmpty then 0 else 1) < 30)) = true := by rfl)
    (hline : (apos.endLine == cpos.line) = true := by rfl) (hs : starEach (e :: es) X.env = (false, eval e X.env) :: starEach es X.env := by rfl) (hplain : (backTo cpos (starEach es X.env)).any (·.1) = false := by rfl) :
    SE X (.Call (.Attribute o name apos) (e :: es) [] cpos) (dM r to ta) := fun W tk O F A H σ Γ vs T M K R s lf h =>
  bE_of (pe_bm PySem.F.plainAttrs_str slot hty bM_ok bE_ok bA_ok hbase hfew hline hs hplain) (bE_mono (so W tk O F A H σ Γ vs T M _ R s lf h) fun v H1 ⟨d, M1, F1, A1, s1, k⟩ => by
    cases d with
    | str a =>
      have ha := is_asc s1.top
      rw [is_str s1.top]
      exact ⟨rfl, bA_mono (sa W tk O F1 A1 H1 σ Γ vs T M1 _ R s1.pop lf k) fun ws H2 ⟨ds, M2, F2, A2, s2, p, k2⟩ => hm O F2 A2 H2 σ Γ vs T M2 K ws ds a s2 ha p k2⟩
    | _ => exact k.elim)
def mSplit : DM := fun a ds M K => match ds with
  | [.str [c]] => a.length + 2 ≤ 16777216 ∧ K (.ls ((spC c a).map .str)) M
  | _ => False
theorem md_split : MtD X "str.split" mSplit := by
  intro O F A H σ Γ vs T M K ws ds a s ha p h
  match ds, p, h with
  | [.str [c]], .cons r .nil, ⟨hz, k⟩ =>
    have hc := is_asc r c List.mem_cons_self
    rw [is_str r]
    refine ⟨_, mt_split, SS a, SS [c], rfl, rfl, rfl, by rw [len_SS, sizeLine_eq]; exact hz, ?_⟩
    rw [split_SS a c hc]
    exact post_ls s (isL_of_strs _ fun q hq x hx => ha x (spC_sub c a q hq x hx)) k
def mPart : DM := fun a ds M K => match ds with
  | [.str [c]] => a.length ≤ 16777216 ∧ K (.tp [.str (ptC c a).1, .str (ptC c a).2.1, .str (ptC c a).2.2]) M
  | _ => False
theorem ptC_asc {a : List Nat} (c : Nat) (ha : Asc a) : Asc (ptC c a).1 ∧ Asc (ptC c a).2.1 ∧ Asc (ptC c a).2.2 := by
  have e := ptC_eq c a
  refine ⟨ha.sub fun x hx => ?_, ha.sub fun x hx => ?_, ha.sub fun x hx => ?_⟩
  · rw [← e]; exact List.mem_append_left _ hx
  · rw [← e]; exact List.mem_append_right _ (List.mem_append_left _ hx)
  · rw [← e]; exact List.mem_append_right _ (List.mem_append_right _ hx)
theorem md_part : MtD X "str.partition" mPart := by
  intro O F A H σ Γ vs T M K ws ds a s ha p h
  match ds, p, h with
  | [.str [c]], .cons r .nil, ⟨hz, k⟩ =>
    rw [is_str r]
    refine ⟨_, mt_partition, SS a, SS [c], rfl, rfl, rfl, by rw [len_SS, sizeLine_eq]; exact hz, ?_⟩
    rw [partition_SS a c]
    obtain ⟨h1, h2, h3⟩ := ptC_asc c ha
    exact post_tp s (.cons (.str _ h1) (.cons (.str _ h2) (.cons (.str _ h3) .nil))) k
def mJoin : DM := fun a ds M K => match ds with
  | [d] => (match sqOf M d with
    | some l => ∃ ss : List (List Nat), l = ss.map .str ∧ (ss.map (·.length)).sum + ss.length * a.length ≤ 16777216 ∧ K (.str (jn a ss)) M
    | none => False)
  | _ => False
theorem md_join : MtD X "str.join" mJoin := by
  intro O F A H σ Γ vs T M K ws ds a s ha p h
  match ds, p, h with
  | [d], .cons r .nil, h =>
    have h : (match sqOf M d with | some l => ∃ ss : List (List Nat), l = ss.map .str ∧ (ss.map (·.length)).sum + ss.length * a.length ≤ 16777216 ∧ K (.str (jn a ss)) M | none => False) := h
    cases e : sqOf M d with
    | none => rw [e] at h; exact h.elim
    | some l =>
      rw [e] at h
      obtain ⟨ss, rfl, hz, k⟩ := h
      obtain ⟨b, xs, rfl, hq, q⟩ := s.seq r e
      have hx := isL_strs q
      subst hx
      refine ⟨_, mt_join, SS a, b, ss.map SS, rfl, rfl, hq, ?_, ?_⟩
      · rw [List.map_map, List.length_map, len_SS]
        have e2 : ((fun x : Str => x.length) ∘ SS) = fun l => l.length := by
          funext l
          exact len_SS l
        rw [e2]
        exact hz
      · rw [join_SS]
        exact post_c s (.str _ fun x hx => (jn_sub a ss x hx).elim (ha x) fun ⟨p, hp, q2⟩ => isL_asc q p hp x q2) k
def mStarts : DM := fun a ds M K => match ds with
  | [.str b] => K (.bl (b.isPrefixOf a)) M
  | _ => False
theorem md_starts : MtD X "str.startswith" mStarts := by
  intro O F A H σ Γ vs T M K ws ds a s ha p h
  match ds, p, h with
  | [.str b], .cons r .nil, k =>
    rw [is_str r]
    refine ⟨_, mt_startswith, SS a, SS b, rfl, rfl, ?_⟩
    rw [startswith_SS]
    exact post_c s (.bl _) k
def mEnds : DM := fun a ds M K => match ds with
  | [.str b] => K (.bl (b.isSuffixOf a)) M
  | _ => False
theorem md_ends : MtD X "str.endswith" mEnds := by
  intro O F A H σ Γ vs T M K ws ds a s ha p h
  match ds, p, h with
  | [.str b], .cons r .nil, k =>
    rw [is_str r]
    refine ⟨_, mt_endswith, SS a, SS b, rfl, rfl, ?_⟩
    rw [endswith_SS]
    exact post_c s (.bl _) k
end

/-! ### append -/
section
variable {X : Cx} {o e : Expr} {to te : DE} {apos cpos : Pos}
theorem se_app (so : SE X o to) (sa : SE X e te) (hbase : attributeBase o "append" X.env (eval o X.env) = eval o X.env := by rfl)
    (hfew : ((backTo cpos (starEach [e] X.env)).all (fun x => !x.1) && (backToKw cpos (keywordEach [] X.env)).all (fun x => x.1.isSome)
      && decide ([e].length + ([] : List Keyword).length + (if ([] : List Keyword).isEmpty then 0 else 1) < 30)) = true := by rfl)
    (hline : (apos.endLine == cpos.line) = true := by rfl) (hs : starEach [e] X.env = (false, eval e X.env) :: starEach [] X.env := by rfl) (hplain : (backTo cpos (starEach [] X.env)).any (·.1) = false := by rfl) :
    SE X (.Call (.Attribute o "append" apos) [e] [] cpos) (dApp to te) := fun W tk O F A H σ Γ vs T M K R s lf h =>
  bE_of (pe_bm PySem.F.plainAttrs_list PySem.F.slot_list_append PySem.F.type_list_append mt_append bE_ok (pa_cons bE_ok pa_nil hs) hbase hfew hline hs hplain) (bE_mono (so W tk O F A H σ Γ vs T M _ R s lf h) fun v H1 ⟨d, M1, F1, A1, s1, k⟩ => by
    cases d with
    | cel kk =>
      obtain ⟨⟨l0, h0⟩, k⟩ := k
      have s := s1.pop
      obtain ⟨a, rfl, ha⟩ := is_cel s1.top
      obtain ⟨hF0, xs0, hH0, p0⟩ := s.cells kk a _ ha h0
      refine ⟨.inl ⟨rfl, _, sq_of hH0⟩, bE_mono (sa W tk O F1 A1 H1 σ Γ (.ref a :: vs) (.cel kk :: T) M1 _ R s1 lf.pop k) fun y H2 ⟨d2, M2, F2, A2, s2, l2, h2, hz, k3⟩ => ?_⟩
      have i2 := s2.top
      obtain ⟨b, e, hb⟩ := is_cel s2.pop.top
      cases e
      obtain ⟨hF, xs, hH, p⟩ := s2.cells kk a _ hb h2
      refine ⟨a, xs, y, rfl, rfl, hH, by rw [p.len, sizeLine_eq]; exact hz, .non, M2.set kk (.ls (l2 ++ [d2])), F2, A2, ?_, k3⟩
      exact (s2.pop.pop.mut (m' := .ls (l2 ++ [d2])) (o := .lst (xs ++ [y])) hb hF ⟨hF, _, upd_same, Paired.app p (.cons i2 .nil)⟩).push .non
    | _ => exact k.elim)
end
end L3

namespace L3
open PySem PySem.Spec PyProof.Rows L2 Evl
open Classical

/-! ### states in a row; an object outside -/
section
variable {X : Cx} {O : Org} {F F' : Hp} {A A' : List Addr} {H H' : Hp} {σ σ' : L2.St} {Γ Γ' : G} {vs vs' : List V} {T T' : List D} {M M' : MM}
theorem StOk.refl (s : StOk X O F A H σ Γ vs T M) : StOk X ⟨F, H, A⟩ F A H σ Γ vs T M :=
  ⟨Ex.refl _, s.exH, fun _ _ e => .inl e, List.prefix_refl _, fun _ _ _ e => e, fun a h h2 => absurd h h2, s.nd, s.inH, s.len, s.cells, s.sl, s.slot, s.tmp⟩
theorem StOk.trans (s : StOk X O F A H σ Γ vs T M) (s' : StOk X ⟨F, H, A⟩ F' A' H' σ' Γ' vs' T' M') : StOk X O F' A' H' σ' Γ' vs' T' M' := by
  refine ⟨s.exF.trans s'.exF, s'.exH, fun a o e => ?_, s.pre.trans s'.pre, fun a o ha e => ?_, fun a ha hO => ?_, s'.nd, s'.inH, s'.len, s'.cells, s'.sl, s'.slot, s'.tmp⟩
  · rcases s'.nw a o e with h | h | h
    · exact s.nw a o h
    · exact .inr (.inl (s.fr h))
    · by_cases hO : a ∈ O.A
      · exact .inr (.inr hO)
      · exact .inr (.inl (s.frs a h hO))
  · refine s'.keep a o (fun z => ?_) (s.keep a o ha e)
    have := s.frs a z ha
    rw [e] at this
    cases this
  · by_cases h : a ∈ A
    · exact s.frs a h hO
    · exact s.fr (s'.frs a ha h)
theorem Lift.refl {W : WX} {R : Rx} (s : StOk X O F A H σ Γ vs T M) (lf : Lift X W O vs' T' R) : Lift X W ⟨F, H, A⟩ vs' T' R := fun x σ2 Γ2 M2 F2 A2 H2 cls d s2 xi r => lf x σ2 Γ2 M2 F2 A2 H2 cls d (s.trans s2) xi r
/-- an object that is neither known nor one of ours is new or changes -/
theorem StOk.off {p : Addr} {o : HO} (s : StOk X O F A H σ Γ vs T M) (hF : F p = none) (hA : p ∉ A) (hO : O.H p = none) : StOk X O F A (upd H p o) σ Γ vs T M := by
  refine ⟨s.exF, fun b u e => ?_, s.nw, s.pre, fun b u hb e => ?_, s.frs, s.nd, fun b hb => ?_, s.len, fun k b m e1 e2 => ?_, s.sl, s.slot, s.tmp⟩
  · rw [upd_ne (fun z => by rw [z, hF] at e; cases e)]
    exact s.exH b u e
  · rw [upd_ne (fun z => by rw [z, hO] at e; cases e)]
    exact s.keep b u hb e
  · rw [upd_ne (fun z => hA (by rw [← z]; exact hb))]
    exact s.inH b hb
  · have hne : b ≠ p := fun z => hA (by rw [← z]; exact List.mem_of_getElem? e1)
    exact (s.cells k b m e1 e2).mono (Ex.refl _) (List.prefix_refl _) (fun z => z) (upd_ne hne)
/-- .. is known from here on -/
theorem StOk.learn {p : Addr} {o : HO} (s : StOk X O F A H σ Γ vs T M) (hF : F p = none) (hA : p ∉ A) (hO : O.H p = none) (hp : H p = some o) : StOk X O (upd F p o) A H σ Γ vs T M := by
  have ex : Ex F (upd F p o) := Ex.new hF
  refine ⟨s.exF.trans ex, fun b u e => ?_, fun b u e => ?_, s.pre, s.keep, s.frs, s.nd, s.inH, s.len, fun k b m e1 e2 => ?_, s.sl, fun i d e => ?_, s.tmp.mono ex (List.prefix_refl _)⟩
  · by_cases z : b = p
    · subst z
      rw [upd_same] at e
      rw [hp, e]
    · rw [upd_ne z] at e
      exact s.exH b u e
  · by_cases z : b = p
    · exact .inr (.inl (by rw [z]; exact hO))
    · rw [upd_ne z] at e
      exact s.nw b u e
  · have hne : b ≠ p := fun z => hA (by rw [← z]; exact List.mem_of_getElem? e1)
    exact (s.cells k b m e1 e2).mono ex (List.prefix_refl _) (fun z => by rw [upd_ne hne]; exact z) rfl
  · obtain ⟨v, h1, h2⟩ := s.slot i d e
    exact ⟨v, h1, h2.mono ex (List.prefix_refl _)⟩
end

/-! ### what is walked -/
structure WalkD (X : Cx) (J : It) (items : List D) (chk : MM → Prop) (v1 : List V) (T1 : List D) : Prop where
  go : ∀ {O F A H σ Γ vs T M} (i : Nat), StOk X O F A H σ Γ (v1 ++ vs) (T1 ++ T) M → chk M → ∀ d, items[i]? = some d → J.go i H ∧ ∀ x H', J.yld i H x H' → ∃ F', StOk X O F' A H' σ Γ (v1 ++ vs) (T1 ++ T) M ∧ Is X.K X.mg A F' x d
  stop : ∀ {O F A H σ Γ vs T M} (i : Nat), StOk X O F A H σ Γ (v1 ++ vs) (T1 ++ T) M → chk M → items.length ≤ i → J.stop i H
abbrev DIt := G → MM → (List D → (MM → Prop) → MM → Prop) → Rx → Prop
structure BIt (X : Cx) (tg iter : Expr) (σ : L2.St) (H : Hp) (R : It → Hp → Prop) : Prop where
  go : ∀ pins s, Inv X pins σ H s → wpAny (model X.prog X.w) X.A (eval iter X.env) (fun v s1 => wpAny (model X.prog X.w) X.A (pyIter v) (PIE X pins σ tg R) X.xe s1) X.xe s
abbrev bIt (X : Cx) (tg iter : Expr) : TI := fun σ H R => BIt X tg iter σ H R
theorem bIt_ok {X : Cx} {tg iter : Expr} : PI X tg iter (bIt X tg iter) := ⟨fun pins s σ H R I q => q.go pins s I⟩
theorem bIt_of {X : Cx} {tg iter : Expr} {wi : TI} {σ : L2.St} {H : Hp} {R : It → Hp → Prop} (h : PI X tg iter wi) (q : wi σ H R) : bIt X tg iter σ H R := ⟨fun pins s I => h.run pins s σ H R I q⟩
theorem bIt_mono {X : Cx} {tg iter : Expr} {σ : L2.St} {H : Hp} {R R' : It → Hp → Prop} (h : bIt X tg iter σ H R) (q : ∀ J H', R J H' → R' J H') : bIt X tg iter σ H R' := ⟨fun pins s I =>
  thn (h.go pins s I) fun v s1 h1 => thn h1 fun itv s2 ⟨it, fp, tn, J, H', e, I', t, t0, f, r⟩ => ⟨it, fp, tn, J, H', e, I', t, t0, f, q J H' r⟩⟩
def SI (X : Cx) (tg iter : Expr) (t : DIt) : Prop := ∀ (W : WX), Takes X W → ∀ O F A H σ Γ vs T M Kt R, StOk X O F A H σ Γ vs T M → Lift X W O vs T R → t Γ M Kt R →
  bIt X tg iter σ H (fun J H' => ∃ items chk M' F' A' v1 T1, v1.length = T1.length ∧ StOk X O F' A' H' σ Γ (v1 ++ vs) (T1 ++ T) M' ∧ WalkD X J items chk v1 T1 ∧ Kt items chk M')
def iLst (t : DE) : DIt := fun Γ M Kt R => t Γ M (fun d M1 => ∃ l, lsOf M1 d = some l ∧ Kt l (fun M' => lsOf M' d = some l) M1) R
def iTp (t : DE) : DIt := fun Γ M Kt R => t Γ M (fun d M1 => ∃ l, tpOf d = some l ∧ Kt l (fun _ => True) M1) R
def iStr' (t : DE) : DIt := fun Γ M Kt R => t Γ M (fun d M1 => ∃ l, d = .str l ∧ Kt (l.map fun c => .str [c]) (fun _ => True) M1) R
def iR1 (t : DA) : DIt := fun Γ M Kt R => t Γ M (fun ds M1 => ∃ n : Int, ds = [.int n] ∧ n < 2 ^ 62 ∧ -(2 ^ 62) ≤ n ∧ Kt ((List.range n.toNat).map fun i => .int (i : Nat)) (fun _ => True) M1) R
def iR2 (t : DA) : DIt := fun Γ M Kt R => t Γ M (fun ds M1 => ∃ a b : Int, ds = [.int a, .int b] ∧ (-(2 ^ 62) ≤ a ∧ a < 2 ^ 62 ∧ -(2 ^ 62) ≤ b ∧ b < 2 ^ 62) ∧ Kt ((List.range (b - a).toNat).map fun i => .int (a + (i : Nat))) (fun _ => True) M1) R
section
variable {X : Cx} {tg e e2 : Expr} {te : DE} {ta : DA} {p pos : Pos}
theorem rng_items {f : Nat → D} {n i : Nat} {d : D} (h : ((List.range n).map f)[i]? = some d) : i < n ∧ d = f i := by
  rw [List.getElem?_map] at h
  by_cases hi : i < n
  · rw [List.getElem?_range hi] at h
    exact ⟨hi, (Option.some.inj h).symm⟩
  · rw [List.getElem?_eq_none (by simpa using hi)] at h
    cases h
theorem si_lst (sa : SE X e te) : SI X tg e (iLst te) := fun W tk O F A H σ Γ vs T M Kt R s lf h => by
  refine bIt_of (pi_list bE_ok) (bE_mono (sa W tk O F A H σ Γ vs T M _ R s lf h) fun v H1 ⟨d, M1, F1, A1, s1, l, hl, k⟩ => ?_)
  obtain ⟨a, xs, rfl, hq, p⟩ := s1.lst s1.top hl
  refine ⟨a, rfl, ⟨xs, hq⟩, l, _, M1, F1, A1, [.ref a], [d], rfl, s1, ⟨fun {O F A H σ Γ vs T M} i s hc d' hd => ?_, fun {O F A H σ Γ vs T M} i s hc hi => ?_⟩, k⟩
  · obtain ⟨b, ys, e, hq2, p2⟩ := s.lst (StOk.top s) hc
    cases e
    obtain ⟨x, hx, _⟩ := p2.some hd
    refine ⟨⟨ys, x, hq2, hx⟩, fun y H' ⟨e, hy⟩ => ?_⟩
    subst e
    exact ⟨F, s, p2.get i y d' (hy ys hq2) hd⟩
  · obtain ⟨b, ys, e, hq2, p2⟩ := s.lst (StOk.top s) hc
    cases e
    exact ⟨ys, hq2, by rw [p2.len]; exact hi⟩
theorem si_tp (sa : SE X e te) : SI X tg e (iTp te) := fun W tk O F A H σ Γ vs T M Kt R s lf h => by
  refine bIt_of (pi_tup bE_ok) (bE_mono (sa W tk O F A H σ Γ vs T M _ R s lf h) fun v H1 ⟨d, M1, F1, A1, s1, l, hl, k⟩ => ?_)
  obtain ⟨a, xs, rfl, hq, p⟩ := s1.tup s1.top hl
  refine ⟨a, rfl, ⟨xs, hq⟩, l, _, M1, F1, A1, [.ref a], [d], rfl, s1, ⟨fun {O F A H σ Γ vs T M} i s hc d' hd => ?_, fun {O F A H σ Γ vs T M} i s hc hi => ?_⟩, k⟩
  · obtain ⟨b, ys, e, hq2, p2⟩ := s.tup (StOk.top s) hl
    cases e
    obtain ⟨x, hx, _⟩ := p2.some hd
    refine ⟨⟨ys, x, hq2, hx⟩, fun y H' ⟨e, hy⟩ => ?_⟩
    subst e
    exact ⟨F, s, p2.get i y d' (hy ys hq2) hd⟩
  · obtain ⟨b, ys, e, hq2, p2⟩ := s.tup (StOk.top s) hl
    cases e
    exact ⟨ys, hq2, by rw [p2.len]; exact hi⟩
theorem si_str (sa : SE X e te) : SI X tg e (iStr' te) := fun W tk O F A H σ Γ vs T M Kt R s lf h => by
  refine bIt_of (pi_str bE_ok) (bE_mono (sa W tk O F A H σ Γ vs T M _ R s lf h) fun v H1 ⟨d, M1, F1, A1, s1, l, hl, k⟩ => ?_)
  subst hl
  have ha := is_asc s1.top
  refine ⟨SS l, is_str s1.top, _, _, M1, F1, A1, [], [], rfl, s1.pop, ⟨fun {O F A H σ Γ vs T M} i s hc d' hd => ?_, fun {O F A H σ Γ vs T M} i s hc hi => ?_⟩, k⟩
  · rw [List.getElem?_map] at hd
    have hsz : (SS l).cps.size = l.length := by simp
    cases q : l[i]? with
    | none => rw [q] at hd; cases hd
    | some c =>
      rw [q] at hd
      have e : d' = .str [c] := (Option.some.inj hd).symm
      subst e
      refine ⟨by show i < (SS l).cps.size; rw [hsz]; exact (List.getElem?_eq_some_iff.mp q).1, fun y H' ⟨e, c', h1, h2⟩ => ?_⟩
      subst e
      have h1 : l[i]? = some c' := by
        have := h1
        simpa using this
      rw [q] at h1
      cases h1
      have hac : Asc [c] := fun x hx => by
        have e : x = c := by simpa using hx
        rw [e]
        exact ha c (List.mem_of_getElem? q)
      exact ⟨F, s, by rw [h2]; exact .str [c] hac⟩
  · show (SS l).cps.size ≤ i
    have hsz : (SS l).cps.size = l.length := by simp
    rw [hsz]
    simpa using hi
theorem si_r1 (hm : X.mg "range" = none) (sa : SA X [e] ta) (hg : Gl X "range" := by rfl) (hs : starEach [e] X.env = [(false, eval e X.env)] := by rfl) : SI X tg (.Call (.Name "range" p) [e] [] pos) (iR1 ta) := fun W tk O F A H σ Γ vs T M Kt R s lf h => by
  refine bIt_of (pi_range1 hg hm bA_ok hs) (bA_mono (sa W tk O F A H σ Γ vs T M _ R s lf h) fun ws H1 ⟨ds, M1, F1, A1, s1, q, n, e, h1, h2, k⟩ => ?_)
  subst e
  cases q with
  | cons r t =>
    cases t
    rw [is_int r]
    refine ⟨n, rfl, h2, h1, _, _, M1, F1, A1, [], [], rfl, s1, ⟨fun {O F A H σ Γ vs T M} i s hc d' hd => ?_, fun {O F A H σ Γ vs T M} i s hc hi => ?_⟩, k⟩
    · obtain ⟨hi, e⟩ := rng_items hd
      refine ⟨hi, fun y H' ⟨e1, e2⟩ => ?_⟩
      subst e1
      refine ⟨F, s, ?_⟩
      rw [e2, e, Int.zero_add]
      exact .int _
    · show n.toNat ≤ i
      simpa using hi
theorem si_r2 (hm : X.mg "range" = none) (sa : SA X [e, e2] ta) (hg : Gl X "range" := by rfl) (hs : starEach [e, e2] X.env = [(false, eval e X.env), (false, eval e2 X.env)] := by rfl) (hs2 : starEach [e2] X.env = [(false, eval e2 X.env)] := by rfl) :
    SI X tg (.Call (.Name "range" p) [e, e2] [] pos) (iR2 ta) := fun W tk O F A H σ Γ vs T M Kt R s lf h => by
  refine bIt_of (pi_range2 hg hm bA_ok hs hs2) (bA_mono (sa W tk O F A H σ Γ vs T M _ R s lf h) fun ws H1 ⟨ds, M1, F1, A1, s1, q, a, b, e, hab, k⟩ => ?_)
  subst e
  cases q with
  | cons r t =>
    cases t with
    | cons r2 t2 =>
    cases t2
    rw [is_int r, is_int r2]
    refine ⟨a, b, rfl, hab, _, _, M1, F1, A1, [], [], rfl, s1, ⟨fun {O F A H σ Γ vs T M} i s hc d' hd => ?_, fun {O F A H σ Γ vs T M} i s hc hi => ?_⟩, k⟩
    · obtain ⟨hi, e⟩ := rng_items hd
      refine ⟨hi, fun y H' ⟨e1, e2⟩ => ?_⟩
      subst e1
      refine ⟨F, s, ?_⟩
      rw [e2, e]
      exact .int _
    · show (b - a).toNat ≤ i
      simpa using hi
end

/-! ### targets: a name, several names -/
inductive Tgt where
  | nm (i : Nat)
  | tup (is : List Nat)
def gNms : List Nat → TGs
  | [] => gNil
  | i :: r => gCons (gName i) (gNms r)
def Tgt.h (K : PySem.W.Frag) : Tgt → TG
  | .nm i => gName i
  | .tup is => gTup K is.length (gNms is)
def Tgt.slots : Tgt → List Nat
  | .nm i => [i]
  | .tup is => is
def setAll {α : Type} (Γ : List (Option α)) : List Nat → List α → List (Option α)
  | i :: r, d :: ds => setAll (Γ.set i (some d)) r ds
  | _, _ => Γ
def Tgt.d : Tgt → D → G → (G → Prop) → Prop
  | .nm i, d, Γ, Q => Q (Γ.set i (some d))
  | .tup is, .tp ds, Γ, Q => ds.length = is.length ∧ Q (setAll Γ is ds)
  | _, _, _, _ => False
section
variable {X : Cx} {O : Org} {F : Hp} {A : List Addr} {H : Hp} {σ : L2.St} {Γ : G} {vs : List V} {T : List D} {M : MM}
theorem StOk.setAll : ∀ {is : List Nat} {xs : List V} {ds : List D} {σ : L2.St} {Γ : G}, StOk X O F A H σ Γ vs T M → IsL X.K X.mg A F xs ds → StOk X O F A H (L3.setAll σ is xs) (L3.setAll Γ is ds) vs T M
  | [], _, _, _, _, s, _ => s
  | i :: r, _, _, _, _, s, .nil => s
  | i :: r, _, _, _, _, s, .cons h t => StOk.setAll (is := r) (s.set i h) t
theorem gNms_all : ∀ {is : List Nat} {xs : List V} {σ : L2.St} {Q : L2.St → Hp → Prop}, xs.length = is.length → Q (L3.setAll σ is xs) H → gNms is xs σ H Q
  | [], [], _, _, _, q => ⟨rfl, q⟩
  | [], _ :: _, _, _, e, _ => nomatch e
  | _ :: _, [], _, _, e, _ => nomatch e
  | i :: r, x :: xs, σ, Q, e, q => ⟨x, xs, rfl, gNms_all (is := r) (by simpa using e) q⟩
/-- what a target does -/
theorem Tgt.go (tg : Tgt) {x : V} {d : D} {Qd : G → Prop} (s : StOk X O F A H σ Γ vs T M) (i : Is X.K X.mg A F x d) (h : tg.d d Γ Qd) :
    ∃ ys Γ', (∀ Q : L2.St → Hp → Prop, Q (L3.setAll σ tg.slots ys) H → tg.h X.K x σ H Q) ∧ StOk X O F A H (L3.setAll σ tg.slots ys) Γ' vs T M ∧ Qd Γ' := by
  cases tg with
  | nm j => exact ⟨[x], _, fun Q q => q, s.set j i, h⟩
  | tup is =>
    cases d with
    | tp ds =>
      obtain ⟨hl, h⟩ := h
      obtain ⟨a, xs, rfl, hq, p⟩ := s.tup i rfl
      refine ⟨xs, _, fun Q q => ⟨a, xs, rfl, hq, p.len.trans hl, gNms_all (p.len.trans hl) q⟩, s.setAll p, h⟩
    | _ => exact h.elim
end
end L3

namespace L3
open PySem PySem.Spec PyProof.Rows L2 Evl
open Classical

/-! ### for -/
def forD (chk : MM → Prop) (tg : Tgt) (body : DS) (E : DEnds) : List D → G → MM → Prop
  | [], Γ, M => chk M ∧ E.nx Γ M
  | d :: r, Γ, M => chk M ∧ tg.d d Γ fun Γ' => body { E with nx := forD chk tg body E r, ct := forD chk tg body E r, bk := E.nx } Γ' M
def dFor (it : DIt) (tg : Tgt) (body : DS) : DS := fun E Γ M => it Γ M (fun items chk M1 => forD chk tg body E items Γ M1) E.rz
section
variable {X : Cx} {tg iter e c : Expr} {body : List Stmt} {it : DIt} {t : DS} {tc : DT} {pos : Pos} {g : Tgt}
theorem bB_mono {D D' : Ends} {sts : List Stmt} {σ : L2.St} {H : Hp} (h : bB X sts D σ H) (q : ∀ σ H, D.nx σ H → D'.nx σ H) (q2 : ∀ v H, D.rt v H → D'.rt v H) (q3 : ∀ σ H, D.bk σ H → D'.bk σ H) (q4 : ∀ σ H, D.ct σ H → D'.ct σ H) : bB X sts D' σ H := ⟨fun pins s I => by
  refine thn (h.go pins s I) fun f s' hf => ?_
  cases f with
  | next => obtain ⟨σ', H', I', z⟩ := hf; exact ⟨σ', H', I', q _ _ z⟩
  | brk => obtain ⟨σ', H', I', z⟩ := hf; exact ⟨σ', H', I', q3 _ _ z⟩
  | cont => obtain ⟨σ', H', I', z⟩ := hf; exact ⟨σ', H', I', q4 _ _ z⟩
  | ret u => obtain ⟨v, σ', H', I', r, z⟩ := hf; exact ⟨v, σ', H', I', r, q2 _ _ z⟩⟩
theorem nxt_pop {O : Org} {v1 vs : List V} {T1 T : List D} {N : G → MM → Prop} {σ : L2.St} {H : Hp} (e : v1.length = T1.length) (h : Nxt X O (v1 ++ vs) (T1 ++ T) N σ H) : Nxt X O vs T N σ H := by
  obtain ⟨Γ', M', F', A', s, k⟩ := h
  exact ⟨Γ', M', F', A', (s.popL e).1, k⟩
theorem rtn_pop {O : Org} {v1 vs : List V} {T1 T : List D} {K : Kd} {v : V} {H : Hp} (e : v1.length = T1.length) (h : Rtn X O (v1 ++ vs) (T1 ++ T) K v H) : Rtn X O vs T K v H := by
  obtain ⟨d, M', F', A', σ', Γ', s, k⟩ := h
  exact ⟨d, M', F', A', σ', Γ', ((s.pop.popL e).1).push s.top, k⟩
theorem ss_for (si : SI X tg iter it) (hg : PG X tg (g.h X.K)) (sb : SB X body t) (hc : X.calm = true := by rfl) (hp : PassesOwn (model X.prog X.w) X.A X.env X.xe := by first | exact PassesOwn.never | exact passes_of rfl | assumption)
    (hs : ∀ x, foldedSetIterable iter X.env x = pure x := by intro _; rfl) : SS' X (.For tg iter body [] pos) (dFor it g t) := fun W tk O F A H σ Γ vs T M E s lf h => by
  refine bS_of (ps_for (wi := bIt X tg iter) hp hc bIt_ok hg bB_ok hs) ?_
  refine bIt_mono (si W tk O F A H σ Γ vs T M _ _ s lf h) fun J H1 ⟨items, chk, M1, F1, A1, v1, T1, e, s1, wk, k⟩ => ?_
  refine ⟨fun i m σ H => m = items.length - i ∧ i ≤ items.length ∧ Nxt X O (v1 ++ vs) (T1 ++ T) (forD chk g t E (items.drop i)) σ H, ⟨items.length, by simp, Nat.zero_le _, Γ, M1, F1, A1, s1, by simpa using k⟩, ?_⟩
  rintro i m σ2 H2 ⟨rfl, hi, Γ2, M2, F2, A2, s2, k2⟩
  by_cases hlt : i < items.length
  · have hd : items.drop i = items[i] :: items.drop (i + 1) := List.drop_eq_getElem_cons hlt
    rw [hd] at k2
    obtain ⟨hc2, k2⟩ := k2
    obtain ⟨hgo, hyl⟩ := wk.go i s2 hc2 items[i] (List.getElem?_eq_getElem hlt)
    refine .inr ⟨hgo, Nxt X O (v1 ++ vs) (T1 ++ T) (forD chk g t E (items.drop (i + 1))), fun σ' H' hn => ⟨items.length - (i + 1), by omega, rfl, hlt, hn⟩, fun x H' hy => ?_⟩
    obtain ⟨F3, s3, ix⟩ := hyl x H' hy
    obtain ⟨ys, Γ3, hQ, s4, k4⟩ := g.go s3 ix k2
    refine hQ _ ?_
    refine bB_mono (sb W tk O F3 A2 H' _ Γ3 (v1 ++ vs) (T1 ++ T) M2 { E with nx := forD chk g t E (items.drop (i + 1)), ct := forD chk g t E (items.drop (i + 1)), bk := E.nx } s4 (lf.popL e) k4) (fun _ _ q => q) (fun _ _ q => rtn_pop e q) (fun _ _ q => nxt_pop e q) (fun _ _ q => q)
  · have ei : i = items.length := by omega
    subst ei
    rw [List.drop_length] at k2
    obtain ⟨hc2, k2⟩ := k2
    exact .inl ⟨wk.stop items.length s2 hc2 (Nat.le_refl _), nxt_pop e ⟨Γ2, M2, F2, A2, s2, k2⟩⟩

/-! ### while -/
def dWhile (c : DT) (body : DS) : DS := fun E Γ M => ∃ P : Nat → G → MM → Prop, (∃ m, P m Γ M) ∧ ∀ m Γ M, P m Γ M → c Γ M (fun b M1 => if b = true then body { E with nx := fun Γ' M' => ∃ m', m' < m ∧ P m' Γ' M', ct := fun Γ' M' => ∃ m', m' < m ∧ P m' Γ' M', bk := E.nx } Γ M1 else E.nx Γ M1) E.rz
theorem ss_while (sc : ST X c tc) (sb : SB X body t) (hp : PassesOwn (model X.prog X.w) X.A X.env X.xe := by first | exact PassesOwn.never | exact passes_of rfl | assumption) : SS' X (.While c body [] pos) (dWhile tc t) := fun W tk O F A H σ Γ vs T M E s lf h => by
  obtain ⟨P, ⟨m0, p0⟩, hs⟩ := h
  refine bS_of (ps_while hp bT_ok bB_ok) ⟨fun m σ H => Nxt X O vs T (P m) σ H, ⟨m0, Γ, M, F, A, s, p0⟩, ?_⟩
  rintro m σ1 H1 ⟨Γ1, M1, F1, A1, s1, p1⟩
  refine bT_mono (sc W tk O F1 A1 H1 σ1 Γ1 vs T M1 _ _ s1 lf (hs m Γ1 M1 p1)) fun b H2 ⟨M2, F2, A2, s2, k⟩ => ?_
  cases b with
  | true =>
    refine ⟨Nxt X O vs T (fun Γ' M' => ∃ m', m' < m ∧ P m' Γ' M'), fun σ' H' ⟨Γ', M', F', A', s', m', hm, p'⟩ => ⟨m', hm, Γ', M', F', A', s', p'⟩, ?_⟩
    exact bB_mono (sb W tk O F2 A2 H2 σ1 Γ1 vs T M2 { E with nx := fun Γ' M' => ∃ m', m' < m ∧ P m' Γ' M', ct := fun Γ' M' => ∃ m', m' < m ∧ P m' Γ' M', bk := E.nx } s2 lf k) (fun _ _ q => q) (fun _ _ q => q) (fun _ _ q => q) fun _ _ q => q
  | false => exact ⟨Γ1, M2, F2, A2, s2, k⟩
end

/-! ### comprehensions -/
/-- the tests of a clause -/
def STs (X : Cx) (ifs : List Expr) (t : DT) : Prop := (ifs = [] ∧ t = fun _ M K _ => K true M) ∨ ∃ c, ifs = [c] ∧ ST X c t
def qYes : DT := fun _ M K _ => K true M
theorem sts_nil {X : Cx} : STs X [] qYes := .inl ⟨rfl, rfl⟩
theorem sts_one {X : Cx} {c : Expr} {t : DT} (h : ST X c t) : STs X [c] t := .inr ⟨c, rfl, h⟩
def compD (chk : MM → Prop) (tg : Tgt) (tt : DT) (te : DE) (Γw : G) (K : Kd) : List D → List D → MM → Prop
  | [], acc, M => chk M ∧ K (.ls acc) M
  | d :: r, acc, M => chk M ∧ tg.d d Γw fun Γ' => tt Γ' M (fun b M1 => if b = true then te Γ' M1 (fun y M2 => acc.length < 16777216 ∧ compD chk tg tt te Γw K r (acc ++ [y]) M2) (fun _ _ _ => False) else compD chk tg tt te Γw K r acc M1) (fun _ _ _ => False)
def wipeG (Γ : G) : List Nat → G
  | [] => Γ
  | v :: vs => (wipeG Γ vs).set v none
def dLc (it : DIt) (tg : Tgt) (tt : DT) (te : DE) (own : List Nat) : DE := fun Γ M K R => it Γ M (fun items chk M1 => compD chk tg tt te (wipeG Γ own) K items [] M1) R
theorem set_set_none {α : Type} (l : List (Option α)) (v : Nat) (x : Option α) : (l.set v x).set v none = l.set v none := List.set_set ..
theorem wipe_set1 {i : Nat} {x : Option V} : ∀ {own : List Nat} (σ : L2.St), i ∈ own → wipe (σ.set i x) own = wipe σ own
  | v :: vs, σ, h => by
    show (wipe (σ.set i x) vs).set v none = (wipe σ vs).set v none
    by_cases hv : i ∈ vs
    · rw [wipe_set1 σ hv]
    · have e : i = v := (List.mem_cons.mp h).resolve_right hv
      subst e
      have aux : ∀ {vs : List Nat} (σ : L2.St), i ∉ vs → wipe (σ.set i x) vs = (wipe σ vs).set i x := by
        intro vs
        induction vs with
        | nil => intro σ _; rfl
        | cons u us ih =>
          intro σ hn
          have h1 : i ≠ u := fun z => hn (by rw [z]; exact List.mem_cons_self)
          show (wipe (σ.set i x) us).set u none = ((wipe σ us).set u none).set i x
          rw [ih σ fun z => hn (List.mem_cons_of_mem _ z), List.set_comm _ _ h1]
      rw [aux σ hv, set_set_none]
theorem wipe_wipe : ∀ (own sub : List Nat) (σ : L2.St), (∀ i ∈ sub, i ∈ own) → wipe (wipe σ sub) own = wipe σ own
  | own, [], σ, _ => rfl
  | own, v :: vs, σ, h => by
    show wipe ((wipe σ vs).set v none) own = _
    rw [wipe_set1 _ (h v List.mem_cons_self), wipe_wipe own vs σ fun i hi => h i (List.mem_cons_of_mem _ hi)]
theorem wipe_all {own : List Nat} : ∀ {is : List Nat} {ys : List V} (σ : L2.St), (∀ i ∈ is, i ∈ own) → wipe (setAll σ is ys) own = wipe σ own
  | [], _, σ, _ => rfl
  | _ :: _, [], σ, _ => rfl
  | i :: r, y :: ys, σ, h => by
    show wipe (setAll (σ.set i (some y)) r ys) own = _
    rw [wipe_all _ fun j hj => h j (List.mem_cons_of_mem _ hj), wipe_set1 _ (h i List.mem_cons_self)]
section
variable {X : Cx} {O : Org} {F : Hp} {A : List Addr} {H : Hp} {σ : L2.St} {Γ : G} {vs : List V} {T : List D} {M : MM}
theorem StOk.wipe (s : StOk X O F A H σ Γ vs T M) : ∀ own : List Nat, StOk X O F A H (L2.wipe σ own) (wipeG Γ own) vs T M
  | [] => s
  | v :: r => (StOk.wipe s r).unset v
theorem StOk.slots (s : StOk X O F A H σ Γ vs T M) {σ2 : L2.St} {Γ2 : G} {F2 : Hp} {A2 : List Addr} {H2 : Hp} {vs2 : List V} {T2 : List D} {M2 : MM} (s2 : StOk X ⟨F, H, A⟩ F2 A2 H2 σ2 Γ2 vs2 T2 M2) : StOk X ⟨F, H, A⟩ F2 A2 H2 σ Γ vs2 T2 M2 :=
  ⟨s2.exF, s2.exH, s2.nw, s2.pre, s2.keep, s2.frs, s2.nd, s2.inH, s2.len, s2.cells, s.sl, fun i d e => by
    obtain ⟨v, h1, h2⟩ := s.slot i d e
    exact ⟨v, h1, h2.mono s2.exF s2.pre⟩, s2.tmp⟩
end
section
variable {X : Cx} {elt tg iter : Expr} {ifs : List Expr} {scope : Scope} {own : List (Str × Nat)} {pos spos py : Pos} {it : DIt} {g : Tgt} {tt : DT} {te : DE}
/-- the tests as a reading -/
def bTs (X : Cx) (ifs : List Expr) : TT := fun σ H Q => ∀ pins s, Inv X pins σ H s →
  wpAny (model X.prog X.w) X.A (forIn ifs true fun c r => if r = true then do let ok ← isTrue c X.env (eval c X.env); pure (ForInStep.yield ok) else pure (ForInStep.yield r)) (TP X pins σ Q) X.xe s
theorem sts_run {X : Cx} {ifs : List Expr} {t : DT} (h : STs X ifs t) {W : WX} (tk : Takes X W) {O : Org} {F : Hp} {A : List Addr} {H : Hp} {σ : L2.St} {Γ : G} {vs : List V} {T : List D} {M : MM} {K : Kb} {R : Rx} (s : StOk X O F A H σ Γ vs T M) (lf : Lift X W O vs T R) (k : t Γ M K R) : bTs X ifs σ H (PostT X O σ Γ vs T K) := by
  rcases h with ⟨rfl, rfl⟩ | ⟨c, rfl, h⟩
  · exact fun pins s1 I => pts_nil.run pins s1 σ H _ I ⟨M, F, A, s, k⟩
  · exact fun pins s1 I => (pts_one bT_ok).run pins s1 σ H _ I (h W tk O F A H σ Γ vs T M K R s lf k)
def allT (X : Cx) (scope : Scope) (ifs : List Expr) : TT := fun σ H Q => ∀ (s : Shared) (H₀ : Hp) (C : Addr) (cl : List (Str × Addr)) (fp : List Addr), bTs (X.blk s H₀ scope (compEnvC scope cl C X.env) fp) ifs σ H Q
def allE (X : Cx) (scope : Scope) (elt : Expr) : TE := fun σ H Q => ∀ (s : Shared) (H₀ : Hp) (C : Addr) (cl : List (Str × Addr)) (fp : List Addr), bE (X.blk s H₀ scope (compEnvC scope cl C X.env) fp) elt σ H Q
theorem allT_ok (s : Shared) (H : Hp) (C : Addr) (cl : List (Str × Addr)) (fp : List Addr) : PTs (X.blk s H scope (compEnvC scope cl C X.env) fp) ifs (allT X scope ifs) := ⟨fun pins st _ _ _ I h => h s H C cl fp pins st I⟩
theorem allE_ok (s : Shared) (H : Hp) (C : Addr) (cl : List (Str × Addr)) (fp : List Addr) : PE (X.blk s H scope (compEnvC scope cl C X.env) fp) elt (allE X scope elt) := ⟨fun pins st _ _ _ I h => (h s H C cl fp).go pins st I⟩
/-- the reading that both forms share -/
theorem lc_read (si : SI X tg iter it) (hown : ∀ i ∈ g.slots, i ∈ own.map (·.2))
    (ht : ∀ (s : Shared) (H : Hp) (C : Addr) (cl : List (Str × Addr)) (fp : List Addr), STs (X.blk s H scope (compEnvC scope cl C X.env) fp) ifs tt)
    (he : ∀ (s : Shared) (H : Hp) (C : Addr) (cl : List (Str × Addr)) (fp : List Addr), SE (X.blk s H scope (compEnvC scope cl C X.env) fp) elt te)
    {W : WX} (tk : Takes X W) {O : Org} {F : Hp} {A : List Addr} {H : Hp} {σ : L2.St} {Γ : G} {vs : List V} {T : List D} {M : MM} {K : Kd} {R : Rx} (s : StOk X O F A H σ Γ vs T M) (lf : Lift X W O vs T R) (h : dLc it g tt te (own.map (·.2)) Γ M K R) :
    tLc (bIt X tg iter) (g.h X.K) (allT X scope ifs) (allE X scope elt) (own.map (·.2)) σ H (Post X O σ Γ vs T K) := by
  refine bIt_mono (si W tk O F A H σ Γ vs T M _ _ s lf h) fun J H1 ⟨items, chk, M1, F1, A1, v1, T1, e, s1, wk, k⟩ => fun Dl hD => ?_
  have hOD : O.H Dl = none := s1.fr hD
  refine ⟨fun i m H => m = items.length - i ∧ i ≤ items.length ∧ ∃ M F A accV acc, StOk X O F A H σ Γ (v1 ++ vs) (T1 ++ T) M ∧ H Dl = some (.lst accV) ∧ F Dl = none ∧ Dl ∉ A ∧ IsL X.K X.mg A F accV acc ∧ compD chk g tt te (wipeG Γ (own.map (·.2))) K (items.drop i) acc M,
    ⟨items.length, by simp, Nat.zero_le _, M1, F1, A1, [], [], s1.off (fresh_back s1.exH hD) (fun z => s1.inH Dl z hD) hOD, upd_same, fresh_back s1.exH hD, fun z => s1.inH Dl z hD, .nil, by simpa using k⟩, ?_⟩
  rintro i m H2 ⟨rfl, hi, M2, F2, A2, accV, acc, s2, hacc, hF2, hA2, pacc, k2⟩
  by_cases hlt : i < items.length
  · have hd : items.drop i = items[i] :: items.drop (i + 1) := List.drop_eq_getElem_cons hlt
    rw [hd] at k2
    obtain ⟨hc2, k2⟩ := k2
    have r2 := s2.refl
    obtain ⟨hgo, hyl⟩ := wk.go i r2 hc2 items[i] (List.getElem?_eq_getElem hlt)
    refine .inr ⟨hgo, fun H' => ∃ M F A accV acc, StOk X O F A H' σ Γ (v1 ++ vs) (T1 ++ T) M ∧ H' Dl = some (.lst accV) ∧ F Dl = none ∧ Dl ∉ A ∧ IsL X.K X.mg A F accV acc ∧ compD chk g tt te (wipeG Γ (own.map (·.2))) K (items.drop (i + 1)) acc M, fun H' hn => ⟨items.length - (i + 1), by omega, rfl, hlt, hn⟩, fun x H' hy => ?_⟩
    obtain ⟨F3, s3, ix⟩ := hyl x H' hy
    obtain ⟨ys, Γ3, hQ, s4, k4⟩ := g.go (s3.wipe (own.map (·.2))) ix k2
    refine hQ _ ⟨(wipe_all _ hown).trans (wipe_wipe _ _ _ fun _ h => h), fun bs bH bC bcl bfp => ?_⟩
    have t1 := sts_run (ht bs bH bC bcl bfp) takes0 s4 lift0 k4
    refine fun pins bst I => thn (t1 pins bst I) fun b bs2 ⟨H3, I3, M5, F5, A5, s5, k5⟩ => ⟨H3, I3, ?_⟩
    -- what is known of the new list behind a turn
    have fin : ∀ {F6 : Hp} {A6 : List Addr} {H4 : Hp} {σ6 : L2.St} {Γ6 : G} {vs6 : List V} {T6 : List D} {M6 : MM}, StOk X ⟨F2, H2, A2⟩ F6 A6 H4 σ6 Γ6 vs6 T6 M6 → H4 Dl = some (.lst accV) ∧ F6 Dl = none ∧ Dl ∉ A6 ∧ IsL X.K X.mg A6 F6 accV acc := fun {F6 A6 H4 σ6 Γ6 vs6 T6 M6} s6 => by
      refine ⟨s6.keep Dl _ hA2 hacc, ?_, fun z => ?_, pacc.mono s6.exF s6.pre⟩
      · cases q : F6 Dl with
        | none => rfl
        | some o =>
          rcases s6.nw Dl o q with z | z | z
          · cases hF2.symm.trans z
          · cases hacc.symm.trans z
          · exact absurd z hA2
      · cases hacc.symm.trans (s6.frs Dl z hA2)
    cases b with
    | false =>
      obtain ⟨q1, q2, q3, q4⟩ := fin s5
      exact ⟨M5, F5, A5, accV, acc, s2.trans (s2.slots s5), q1, q2, q3, q4, k5⟩
    | true =>
      intro cs cH cC ccl cfp
      refine bE_mono (he cs cH cC ccl cfp _ takes0 ⟨F2, H2, A2⟩ F5 A5 H3 _ Γ3 (v1 ++ vs) (T1 ++ T) M5 _ _ s5 lift0 k5) fun y H4 ⟨d, M6, F6, A6, s6, hz, k6⟩ => ?_
      obtain ⟨q1, q2, q3, q4⟩ := fin s6
      refine ⟨accV, q1, by rw [q4.len, sizeLine_eq]; exact hz, M6, F6, A6, accV ++ [y], acc ++ [d], (s2.trans (s2.slots (StOk.pop s6))).off q2 q3 hOD, upd_same, q2, q3, Paired.app q4 (.cons (StOk.top s6) .nil), k6⟩
  · have ei : i = items.length := by omega
    subst ei
    rw [List.drop_length] at k2
    obtain ⟨hc2, k2⟩ := k2
    refine .inl ⟨wk.stop items.length s2 hc2 (Nat.le_refl _), .ls acc, M2, upd F2 Dl (.lst accV), A2, ?_, k2⟩
    exact ((s2.learn hF2 hA2 hOD hacc).popL e).1.push (Is.lsL upd_same (pacc.mono (Ex.new hF2) (List.prefix_refl _)))
theorem bTs_ok {ifs : List Expr} : PTs X ifs (bTs X ifs) := ⟨fun pins s _ _ _ I h => h pins s I⟩
theorem se_lc (hN : X.N.Nodup) (si : SI X tg iter it) (ok : BlkOk X.N X.env.scope scope own) (hown : ∀ i ∈ g.slots, i ∈ own.map (·.2))
    (hg : ∀ (s : Shared) (H : Hp) (C : Addr) (cl : List (Str × Addr)) (fp : List Addr), PG (X.blk s H scope (compEnvC scope cl C X.env) fp) tg (g.h X.K))
    (ht : ∀ (s : Shared) (H : Hp) (C : Addr) (cl : List (Str × Addr)) (fp : List Addr), STs (X.blk s H scope (compEnvC scope cl C X.env) fp) ifs tt)
    (he : ∀ (s : Shared) (H : Hp) (C : Addr) (cl : List (Str × Addr)) (fp : List Addr), SE (X.blk s H scope (compEnvC scope cl C X.env) fp) elt te) (hc : X.calm = true := by rfl) (hs : ∀ x, foldedSetIterable iter X.env x = pure x := by intro _; rfl) :
    SE X (.ListComp elt [⟨tg, iter, ifs, 0⟩] scope pos) (dLc it g tt te (own.map (·.2))) := fun W tk O F A H σ Γ vs T M K R s lf h =>
  bE_of (pe_lc hc hN bIt_ok ok hg allT_ok allE_ok hs) (lc_read si hown ht he tk s lf h)
/-- name = [..] on one line -/
theorem ss_setLc {i : Nat} {y : Str} (hN : X.N.Nodup) (si : SI X tg iter it) (ok : BlkOk X.N X.env.scope scope own) (hown : ∀ i ∈ g.slots, i ∈ own.map (·.2))
    (hg : ∀ (s : Shared) (H : Hp) (C : Addr) (cl : List (Str × Addr)) (fp : List Addr), PG (X.blk s H scope (compEnvC scope cl C X.env) fp) tg (g.h X.K))
    (ht : ∀ (s : Shared) (H : Hp) (C : Addr) (cl : List (Str × Addr)) (fp : List Addr), STs (X.blk s H scope (compEnvC scope cl C X.env) fp) ifs tt)
    (he : ∀ (s : Shared) (H : Hp) (C : Addr) (cl : List (Str × Addr)) (fp : List Addr), SE (X.blk s H scope (compEnvC scope cl C X.env) fp) elt te) (hc : X.calm = true := by rfl) (hy : X.N[i]? = some y := by rfl) (hyl : X.env.scope.names.lookup y = some .local := by rfl)
    (hsw : swapsWith (.ListComp elt [⟨tg, iter, ifs, 0⟩] scope pos) (some (.Name y py)) spos.line X.env = pure true := by exact sw_true rfl rfl rfl (by decide +kernel)) (hs : ∀ x, foldedSetIterable iter X.env x = pure x := by intro _; rfl) :
    SS' X (.Assign [.Name y py] (.ListComp elt [⟨tg, iter, ifs, 0⟩] scope pos) spos) (dSet i (dLc it g tt te (own.map (·.2)))) := fun W tk O F A H σ Γ vs T M E s lf h => by
  refine bS_of (ps_setLc (i := i) hc hN hy hyl hsw bIt_ok ok hg allT_ok allE_ok hs) ?_
  refine bIt_mono (lc_read si hown ht he tk s lf h) fun J H1 hq Dl hD => ?_
  obtain ⟨Wt, w0, hw⟩ := hq Dl hD
  refine ⟨Wt, w0, fun i m H w => ?_⟩
  rcases hw i m H w with ⟨h1, d, M', F', A', s1, k⟩ | h2
  · exact .inl ⟨h1, Γ.set _ (some d), M', F', A', s1.pop.set _ s1.top, k⟩
  · exact .inr h2
end
end L3

namespace L3
open PySem PySem.Spec PyProof.Rows L2 Evl
open Classical

/-! ### a def keeps its promise -/
def startG (n : Nat) (ds : List D) : G := ds.map some ++ List.replicate (n - ds.length) none
def OkM (n : Nat) (M : MM) : Prop := ∀ m ∈ M.take n, GrM m
/-- the end of a def that hands back plain data -/
def endG (n : Nat) (K0 : Kd) (R0 : Kx) : DEnds where
  nx := fun _ M' => OkM n M' ∧ K0 .non (M'.take n)
  rt := fun d M' => Gr d ∧ OkM n M' ∧ K0 d (M'.take n)
  rz := fun x _ M' => (∀ d ∈ x.l, Gr d) ∧ OkM n M' ∧ R0 x (M'.take n)
/-- .. a changing object of its own making -/
def endN (n : Nat) (K0 : Kd) (R0 : Kx) : DEnds where
  nx := fun _ _ => False
  rt := fun d M' => OkM n M' ∧ ∃ k m, d = .cel k ∧ n ≤ k ∧ M'[k]? = some m ∧ GrM m ∧ K0 (.cel n) (M'.take n ++ [m])
  rz := fun x _ M' => (∀ d ∈ x.l, Gr d) ∧ OkM n M' ∧ R0 x (M'.take n)
/-- .. all as it is -/
def endW (_ : Nat) (K0 : Kd) (R0 : Kx) : DEnds where
  nx := fun _ M' => K0 .non M'
  rt := fun d M' => K0 d M'
  rz := fun x _ M' => R0 x M'
structure EndOk (en : Nat → Kd → Kx → DEnds) : Prop where
  bk : ∀ {n K0 R0 Γ M}, (en n K0 R0).bk Γ M → False
  ct : ∀ {n K0 R0 Γ M}, (en n K0 R0).ct Γ M → False
  rt : ∀ {X : Cx} {F0 : Hp} {A0 : List Addr} {H0 : Hp} {n : Nat} {K0 : Kd} {R0 : Kx} {F' A' H' σ' Γ' vs T M' v d}, n = A0.length → StOk X ⟨F0, H0, A0⟩ F' A' H' σ' Γ' vs T M' → Is X.K X.mg A' F' v d → (en n K0 R0).rt d M' →
    ∃ A2 M2 d2, Went F0 A0 H0 F' A2 H' ∧ Mem X.K X.mg F' A2 H' M2 ∧ Is X.K X.mg A2 F' v d2 ∧ K0 d2 M2
  nx : ∀ {X : Cx} {F0 : Hp} {A0 : List Addr} {H0 : Hp} {n : Nat} {K0 : Kd} {R0 : Kx} {F' A' H' σ' Γ' vs T M'}, n = A0.length → StOk X ⟨F0, H0, A0⟩ F' A' H' σ' Γ' vs T M' → (en n K0 R0).nx Γ' M' →
    ∃ A2 M2, Went F0 A0 H0 F' A2 H' ∧ Mem X.K X.mg F' A2 H' M2 ∧ K0 .non M2
  rz : ∀ {X : Cx} {F0 : Hp} {A0 : List Addr} {H0 : Hp} {n : Nat} {K0 : Kd} {R0 : Kx} {F' A' H' σ' Γ' vs T M' cls dd x}, n = A0.length → StOk X ⟨F0, H0, A0⟩ F' A' H' σ' Γ' vs T M' → XIs X.K X.mg A' F' cls dd x → (en n K0 R0).rz x Γ' M' →
    ∃ A2 M2, Went F0 A0 H0 F' A2 H' ∧ Mem X.K X.mg F' A2 H' M2 ∧ XIs X.K X.mg A2 F' cls dd x ∧ R0 x M2
section
variable {X : Cx} {F0 : Hp} {A0 : List Addr} {H0 : Hp} {n : Nat} {F' : Hp} {A' : List Addr} {H' : Hp} {σ' : L2.St} {Γ' : G} {vs : List V} {T : List D} {M' : MM}
theorem exit_mem (hn : n = A0.length) (s : StOk X ⟨F0, H0, A0⟩ F' A' H' σ' Γ' vs T M') (g : OkM n M') : Went F0 A0 H0 F' A0 H' ∧ Mem X.K X.mg F' A0 H' (M'.take n) := by
  obtain ⟨r, hr⟩ := s.pre
  have hr : A0 ++ r = A' := hr
  have hl := s.len
  refine ⟨⟨s.exF, List.prefix_refl _, s.keep, fun a h h2 => absurd h h2, s.nw⟩, s.exH, ?_, fun a ha => s.inH a (by rw [← hr]; exact List.mem_append_left _ ha), ?_, fun k a m e1 e2 => ?_⟩
  · have := s.nd
    rw [← hr] at this
    exact (List.nodup_append.mp this).1
  · rw [List.length_take, ← hl, ← hr, List.length_append]
    omega
  · have hk : k < A0.length := (List.getElem?_eq_some_iff.mp e1).1
    have e3 : A'[k]? = some a := by
      rw [← hr, List.getElem?_append_left hk]
      exact e1
    have hm : m ∈ M'.take n := List.mem_of_getElem? e2
    rw [List.getElem?_take] at e2
    rw [if_pos (by omega)] at e2
    exact (s.cells k a m e3 e2).gr (g m hm)
theorem end_g : EndOk endG := by
  refine ⟨fun h => h, fun h => h, ?_, ?_, ?_⟩
  · intro X F0 A0 H0 n K0 R0 F' A' H' σ' Γ' vs T M' v d hn s i h
    obtain ⟨g, o, k⟩ := h
    obtain ⟨w, m⟩ := exit_mem hn s o
    exact ⟨A0, _, d, w, m, i.gr g, k⟩
  · intro X F0 A0 H0 n K0 R0 F' A' H' σ' Γ' vs T M' hn s h
    obtain ⟨o, k⟩ := h
    obtain ⟨w, m⟩ := exit_mem hn s o
    exact ⟨A0, _, w, m, k⟩
  · intro X F0 A0 H0 n K0 R0 F' A' H' σ' Γ' vs T M' cls dd x hn s i h
    obtain ⟨g, o, k⟩ := h
    obtain ⟨w, m⟩ := exit_mem hn s o
    exact ⟨A0, _, w, m, i.gr g, k⟩
theorem end_n : EndOk endN := by
  refine ⟨fun h => h, fun h => h, ?_, ?_, ?_⟩
  · intro X F0 A0 H0 n K0 R0 F' A' H' σ' Γ' vs T M' v d hn s i h
    obtain ⟨o, k, mo, rfl, hk, hm, gm, kk⟩ := h
    obtain ⟨w, m⟩ := exit_mem hn s o
    obtain ⟨a, rfl, ha⟩ := is_cel i
    obtain ⟨r, hr⟩ := s.pre
    have hr : A0 ++ r = A' := hr
    have hin : a ∈ A' := List.mem_of_getElem? ha
    have hnA : a ∉ A0 := fun z => by
      have hnd := s.nd
      rw [← hr] at ha hnd
      rw [List.getElem?_append_right (by omega)] at ha
      exact (List.nodup_append.mp hnd).2.2 a z a (List.mem_of_getElem? ha) rfl
    have hl0 := m.len
    refine ⟨A0 ++ [a], M'.take n ++ [mo], .cel n, ⟨w.exF, ⟨[a], rfl⟩, w.keep, fun b hb hb2 => ?_, w.nw⟩, ⟨m.ex, ?_, fun b hb => ?_, by simp [hl0], fun j b mo' e1 e2 => ?_⟩, .cel (by rw [List.getElem?_append_right (by omega), hn, Nat.sub_self]; rfl), kk⟩
    · rcases List.mem_append.mp hb with z | z
      · exact absurd z hb2
      · have e : b = a := by simpa using z
        rw [e]
        exact s.frs a hin hnA
    · rw [List.nodup_append]
      exact ⟨m.nd, by simp, fun b hb c hc e => hnA (by
        have e2 : c = a := by simpa using hc
        rw [← e2, ← e]
        exact hb)⟩
    · rcases List.mem_append.mp hb with z | z
      · exact m.inH b z
      · have e : b = a := by simpa using z
        rw [e]
        exact s.inH a hin
    · by_cases hj : j < A0.length
      · rw [List.getElem?_append_left hj] at e1
        rw [List.getElem?_append_left (by rw [← hl0]; exact hj)] at e2
        exact (m.cells j b mo' e1 e2).mono (Ex.refl _) ⟨[a], rfl⟩ (fun z => z) rfl
      · rw [List.getElem?_append_right (by omega)] at e1
        rw [List.getElem?_append_right (by rw [← hl0]; omega), ← hl0] at e2
        have hj0 : j - A0.length = 0 := by
          have := (List.getElem?_eq_some_iff.mp e1).1
          simp at this
          omega
        rw [hj0] at e1 e2
        have e3 : a = b := by simpa using e1
        have e4 : mo = mo' := by simpa using e2
        subst e3; subst e4
        exact (s.cells k a mo ha hm).gr gm
  · intro X F0 A0 H0 n K0 R0 F' A' H' σ' Γ' vs T M' hn s h
    exact h.elim
  · intro X F0 A0 H0 n K0 R0 F' A' H' σ' Γ' vs T M' cls dd x hn s i h
    obtain ⟨g, o, k⟩ := h
    obtain ⟨w, m⟩ := exit_mem hn s o
    exact ⟨A0, _, w, m, i.gr g, k⟩
theorem exit_all (s : StOk X ⟨F0, H0, A0⟩ F' A' H' σ' Γ' vs T M') : Went F0 A0 H0 F' A' H' ∧ Mem X.K X.mg F' A' H' M' :=
  ⟨⟨s.exF, s.pre, s.keep, s.frs, s.nw⟩, s.exH, s.nd, s.inH, s.len, s.cells⟩
theorem end_w : EndOk endW := by
  refine ⟨fun h => h, fun h => h, ?_, ?_, ?_⟩
  · intro X F0 A0 H0 n K0 R0 F' A' H' σ' Γ' vs T M' v d hn s i h
    exact ⟨A', _, d, (exit_all s).1, (exit_all s).2, i, h⟩
  · intro X F0 A0 H0 n K0 R0 F' A' H' σ' Γ' vs T M' hn s h
    exact ⟨A', _, (exit_all s).1, (exit_all s).2, h⟩
  · intro X F0 A0 H0 n K0 R0 F' A' H' σ' Γ' vs T M' cls dd x hn s i h
    exact ⟨A', _, (exit_all s).1, (exit_all s).2, i, h⟩
end
section
variable {P : Program} {w : World} {K : PySem.W.Frag} {mg : Str → Option Value} {base : Heap}
theorem start_ok {N : List Str} {F0 : Hp} {A0 : List Addr} {H : Hp} {M : MM} {vs : List V} {ds : List D} (m : Mem K mg F0 A0 H M) (p : IsL K mg A0 F0 vs ds) : StK K mg ⟨F0, H, A0⟩ F0 A0 H (L2.start N vs) (startG N.length ds) [] [] M := by
  refine ⟨Ex.refl _, m.ex, fun _ _ e => .inl e, List.prefix_refl _, fun _ _ _ e => e, fun a h h2 => absurd h h2, m.nd, m.inH, m.len, m.cells, ?_, fun i d e => ?_, .nil⟩
  · unfold L2.start startG
    rw [List.length_append, List.length_append, List.length_map, List.length_map, List.length_replicate, List.length_replicate, p.len]
  · unfold startG at e
    by_cases hi : i < ds.length
    · rw [List.getElem?_append_left (by simpa using hi), List.getElem?_map] at e
      cases q : ds[i]? with
      | none => rw [q] at e; cases e
      | some d' =>
        rw [q] at e
        cases e
        obtain ⟨v, hv, iv⟩ := p.some q
        refine ⟨v, ?_, iv⟩
        unfold L2.start
        rw [List.getElem?_append_left (by rw [List.length_map, p.len]; exact hi), List.getElem?_map, hv]
        rfl
    · rw [List.getElem?_append_right (by simpa using Nat.le_of_not_lt hi)] at e
      have := List.mem_of_getElem? e
      rw [List.mem_replicate] at this
      cases this.2
/-- the context of a body -/
abbrev cxD (P : Program) (w : World) (K : PySem.W.Frag) (mg : Str → Option Value) (base : Heap) (N : List Str) (qual : Str) (scope : Scope) (f : Addr) (cdv : Value) (A : Around) (outer : List Env) (s : Shared) (H : Hp) (E : XK) : Cx := cxOf (L2.CX P w) P w K mg base N qual scope f cdv A outer s H E
/-- the body read by data, in every context -/
def BodyD (P : Program) (w : World) (K : PySem.W.Frag) (mg : Str → Option Value) (base : Heap) (N : List Str) (qual : Str) (st : Stmt) (f : Addr) (k : Nat) (rd : DS) : Prop :=
  ∀ (cdv : Value) (A : Around) (outer : List Env) (s : Shared) (H : Hp) (E : XK), Room k (A.deeper (envOfC qual (defScope st) s.heap.objs.size f cdv)) → SB (cxD P w K mg base N qual (defScope st) f cdv A outer s H E) (defBody st) rd
theorem fn_any {x qual : Str} {st : Stmt} {f : Addr} {fd : FuncData} {N ps : List Str} {k : Nat} {S : DSpec} {rd : DS} {en : Nat → Kd → Kx → DEnds} (F : Fun K x qual st f fd) (Sc : FnScope N ps (defScope st)) (eo : EndOk en) (len : ∀ ds M K0 R0, S ds M K0 R0 → ds.length = ps.length)
    (body : BodyD P w K mg base N qual st f k rd) (sem : ∀ ds M K0 R0, S ds M K0 R0 → rd (en M.length K0 R0) (startG N.length ds) M) : FnOk P w K mg base (L2.CX P w) (k + 1) f fd ps (spOf K mg S) := by
  refine F.okX Sc (fun vs H Q E h => ?_) (fun cdv A outer s H vs Q E hr hsp => ⟨_, bB_ok, ?_⟩)
  · obtain ⟨F0, A0, M, ds, K0, R0, m, p, hS, _⟩ := h
    rw [p.len]
    exact len ds M K0 R0 hS
  · obtain ⟨F0, A0, M, ds, K0, R0, m, p, hS, hq, he⟩ := hsp
    have hb := body cdv A outer s H E hr
    have st0 : StOk (cxD P w K mg base N qual (defScope st) f cdv A outer s H E) ⟨F0, H, A0⟩ F0 A0 H (L2.start N vs) (startG N.length ds) [] [] M := start_ok m p
    have tk : Takes (cxD P w K mg base N qual (defScope st) f cdv A outer s H E) (fun cls d _ H => E cls d H) := takes_of rfl rfl rfl rfl
    refine bB_mono (hb _ tk ⟨F0, H, A0⟩ F0 A0 H _ _ [] [] M (en M.length K0 R0) st0 ?_ (sem ds M K0 R0 hS)) ?_ ?_ ?_ ?_
    · intro x' σ' Γ' M' F' A' H' cls d s' xi h
      obtain ⟨A2, M2, w2, m2, i2, k2⟩ := eo.rz (K0 := K0) m.len.symm s' xi h
      exact he x' M2 k2 cls d F' A2 H' w2 m2 i2
    · rintro σ' H' ⟨Γ', M', F', A', s', h⟩
      obtain ⟨A2, M2, w2, m2, k2⟩ := eo.nx (R0 := R0) m.len.symm s' h
      exact hq .non M2 k2 .non F' A2 H' w2 m2 .non
    · rintro v H' ⟨d, M', F', A', σ', Γ', s', h⟩
      obtain ⟨A2, M2, d2, w2, m2, i2, k2⟩ := eo.rt (R0 := R0) m.len.symm s'.pop s'.top h
      exact hq d2 M2 k2 v F' A2 H' w2 m2 i2
    · rintro σ' H' ⟨Γ', M', F', A', s', h⟩
      exact eo.bk h
    · rintro σ' H' ⟨Γ', M', F', A', s', h⟩
      exact eo.ct h
end
end L3

namespace L3
open PySem PySem.Spec PyProof.Rows L2 Evl
open Classical
/-! ### isinstance of a built-in type -/
def tyD (M : MM) : D → Option String
  | .non => some "NoneType"
  | .bl _ => some "bool"
  | .int _ => some "int"
  | .str _ => some "str"
  | .ls _ => some "list"
  | .tp _ => some "tuple"
  | .cel k => match M[k]? with
    | some (.ls _) => some "list"
    | _ => none
  | _ => none
def rIsiD : DC := fun ds M K => match ds with
  | [d, .ty n] => ∃ t b, tyD M d = some t ∧ kitB t n = some b ∧ K (.bl b) M
  | _ => False
section
variable {X : Cx}
theorem tyX_of {O : Org} {F : Hp} {A : List Addr} {H : Hp} {σ : L2.St} {Γ : G} {vs : List V} {T : List D} {M : MM} (s : StOk X O F A H σ Γ vs T M) {v : V} {d : D} (i : Is X.K X.mg A F v d) {t : String} (h : tyD M d = some t) : TyX X.K H v (.type t) := by
  cases d with
  | non => cases h; rw [is_non i]; exact .base .non
  | bl b => cases h; rw [is_bl i]; exact .base (.bl b)
  | int b => cases h; rw [is_int i]; exact .base (.int b)
  | str b => cases h; rw [is_str i]; exact .base (.str _)
  | ls l =>
    cases h
    obtain ⟨a, xs, rfl, e, _⟩ := is_ls i
    exact .base (.lst (s.exH _ _ e))
  | tp l =>
    cases h
    obtain ⟨a, xs, rfl, hq, _⟩ := s.tup i rfl
    rcases hq with (hq | ⟨o, hq⟩) | ⟨o, its, n, hk, hc, _⟩
    · exact .base (.tup hq)
    · exact .fTuple hq
    · exact .kTuple hk hc
  | cel k =>
    have h : (match M[k]? with | some (.ls _) => some "list" | _ => none) = some t := h
    cases q : M[k]? with
    | none => rw [q] at h; cases h
    | some m =>
      rw [q] at h
      cases m with
      | ls l =>
        cases h
        obtain ⟨a, xs, rfl, e, _⟩ := s.own (l := l) i (show (match M[k]? with | some (.ls l) => some l | _ => none) = some l by rw [q])
        exact .base (.lst e)
      | _ => cases h
  | _ => cases h
theorem cd_isi : CallD X (.builtin "isinstance") rIsiD := by
  intro O F A H σ Γ vs T M K ws ds s p h
  match ds, p, h with
  | [d, .ty n], .cons r (.cons r2 .nil), ⟨t, b, h1, h2, k⟩ =>
    rw [is_ty r2]
    exact ⟨_, call_isi, _, .ty n, .type t, .type n, b, rfl, .ty n, tyX_of s r h1, kit_ty h2, post_c s (.bl _) k⟩
/-- a built-in type's name as a value -/
theorem se_ty {x : Str} {n : String} {pos : Pos} (hm : X.mg x = none) (hv : bootBuiltins x = some (.type n) := by decide +kernel) (hg : Gl X x := by rfl) (hn : x ≠ "__name__" := by decide) (hd : (x == ("__debug__" : Str)) = false := by decide) : SE X (.Name x pos) (dC (.ty n)) :=
  se_c (pe_bltn (v := .ty n) hg hm hv rfl hn hd) fun _ _ => .ty n
end
/-! ### a def as its callers know it: n of its parameters' values dv are defaults -/
structure FD (P : Program) (w : World) (K : PySem.W.Frag) (mg : Str → Option Value) (base : Heap) (x : Str) (k : Nat) (S : DSpec) (dv : List D) : Prop where
  ex : ∃ f fd ps dV dvs, FnOk P w K mg base (L2.CX P w) k f fd ps (spOf K mg S) ∧ mg x = some (.ref f) ∧ PySem.W.keepIn K (.ref f) = true ∧ Binds K fd ps dV ∧ Vals dvs dV ∧ ∀ A F, IsL K mg A F dvs dv
section
variable {X : Cx} {k : Nat} {S : DSpec} {c : CK} {x : Str} {p pos : Pos} {e : Expr} {es : List Expr} {t : DA} {dv : List D}
theorem se_fd (h : FD X.prog X.w X.K X.mg X.base x k S dv) (ck : CallK X S c) (hr : Room k X.A) (sa : SA X (e :: es) t) (hg : Gl X x := by rfl)
    (hdb : (x == ("__debug__" : Str)) = false := by decide) (he : starEach (e :: es) X.env = (false, eval e X.env) :: starEach es X.env := by rfl) (hpl : (backTo pos (starEach es X.env)).any (·.1) = false := by rfl) : SE X (.Call (.Name x p) (e :: es) [] pos) (dFn c dv t) := by
  obtain ⟨f, fd, ps, dV, dvs, F, m, kp, b, v, i⟩ := h.ex
  exact se_fn F ck hr m kp b v i sa hg hdb he hpl
theorem se_fd0 (h : FD X.prog X.w X.K X.mg X.base x k S dv) (ck : CallK X S c) (hr : Room k X.A) (hg : Gl X x := by rfl) (hdb : (x == ("__debug__" : Str)) = false := by decide) : SE X (.Call (.Name x p) [] [] pos) (dFn0 c dv) := by
  obtain ⟨f, fd, ps, dV, dvs, F, m, kp, b, v, i⟩ := h.ex
  exact se_fn0 F ck hr m kp b v i hg hdb
end
/-! ### the law's own end -/
def spLaw (K : PySem.W.Frag) : Sp := fun vs H Q _ => ∃ (a : Addr) (ns : List Int), vs = [.ref a] ∧ SqL K H a (ns.map V.int) ∧ ns.length ≤ 63 ∧ ∀ H', Q (.bl true) H'
/-- what a law asks: of every list of ints it tells True, and raises nothing -/
def sLaw : DSpec := fun ds M K _ => ∃ ns : List Int, ds = [.rl (ns.map .int)] ∧ M = [] ∧ ns.length ≤ 63 ∧ K (.bl true) []
theorem law_fn {P : Program} {w : World} {K : PySem.W.Frag} {mg : Str → Option Value} {base : Heap} {CX : CXT} {k : Nat} {f : Addr} {fd : FuncData} {ps : List Str} (F : FnOk P w K mg base CX k f fd ps (spOf K mg sLaw)) : FnOk P w K mg base CX k f fd ps (spLaw K) := by
  refine F.imp fun vs H Q E h => ?_
  obtain ⟨a, ns, rfl, hS, hl, q⟩ := h
  refine ⟨H, [], [], [.rl (ns.map .int)], fun d _ => d = .bl true, fun _ _ => False, ⟨Ex.refl _, List.nodup_nil, fun _ h => (nomatch h), rfl, fun k a m h => by simp at h⟩, .cons (.rl hS (by simp) fun i x d h1 h2 => ?_) .nil, ⟨ns, rfl, rfl, hl, rfl⟩, fun d M' e v F' A' H' _ _ i => ?_, fun _ _ h => h.elim⟩
  · rw [List.getElem?_map] at h1 h2
    cases q : ns[i]? with
    | none => rw [q] at h1; cases h1
    | some z =>
      rw [q] at h1 h2
      cases h1; cases h2
      exact .int z
  · subst e
    rw [is_bl i]
    exact q H'
end L3

namespace L3
open PySem PySem.Spec PyProof.Rows L2 Evl
open Classical

/-! ### lists that may change, made otherwise than by a display -/
/-- a frozen new list as one that may change: it must be made on the way, so the operation's own rule is read anew -/
def rAddDC : DO2 := fun x y M K => match lsOwn M x, lsOwn M y with
  | some a, some b => a.length + b.length ≤ 16777216 ∧ K (.cel M.length) (M ++ [.ls (a ++ b)])
  | _, _ => False
def rListOfC : DC := fun ds M K => match ds with
  | [d] => (match sqOf M d with
    | some l => K (.cel M.length) (M ++ [.ls l])
    | none => False)
  | _ => False
def dSlC (te : DE) (tl th : DP) : DE := fun Γ M K R => te Γ M (fun d M1 => tl Γ M1 (fun l M2 => th Γ M2 (fun h M3 => match lsOf M3 d with
  | some a => K (.cel M3.length) (M3 ++ [.ls (cut a l h)])
  | none => False) R) R) R
section
variable {X : Cx} {e : Expr} {te : DE} {tl th : DP} {lo hi : Option Expr} {pos p2 : Pos}
theorem opd_addC : OpD X (binaryOp .Add) rAddDC := by
  intro O F A H σ Γ vs T M K v1 v2 d1 d2 s i1 i2 h
  have h : (match lsOwn M d1, lsOwn M d2 with | some a, some b => a.length + b.length ≤ 16777216 ∧ K (.cel M.length) (M ++ [.ls (a ++ b)]) | _, _ => False) := h
  cases e1 : lsOwn M d1 with
  | none => rw [e1] at h; exact h.elim
  | some a =>
    cases e2 : lsOwn M d2 with
    | none => rw [e1, e2] at h; exact h.elim
    | some b =>
      rw [e1, e2] at h
      obtain ⟨hz, k⟩ := h
      obtain ⟨p, xs, rfl, hp, q1⟩ := s.own i1 e1
      obtain ⟨r, ys, rfl, hr, q2⟩ := s.own i2 e2
      refine bO_of op_cat ⟨p, r, xs, ys, rfl, rfl, hp, hr, ?_, post_cel s (Paired.app q1 q2) k⟩
      rw [q1.len, q2.len, sizeLine_eq]
      exact hz
theorem cd_listC : CallD X (.type "list") rListOfC := by
  intro O F A H σ Γ vs T M K ws ds s p h
  cases p with
  | nil => exact h.elim
  | @cons v d vs' ds' i t =>
    cases t with
    | cons _ _ => exact h.elim
    | nil =>
      have h : (match sqOf M d with | some l => K (.cel M.length) (M ++ [.ls l]) | none => False) := h
      cases e : sqOf M d with
      | none => rw [e] at h; exact h.elim
      | some l =>
        rw [e] at h
        obtain ⟨a, xs, rfl, hq, q⟩ := s.seq i e
        exact ⟨_, call_list_of, a, xs, rfl, hq, post_cel s q h⟩
theorem se_sliceC (sa : SE X e te) (sl : SP3 X lo tl) (sh : SP3 X hi th) : SE X (.Subscript e (.Slice lo hi none p2) pos) (dSlC te tl th) := by
  intro W tk O F A H σ Γ vs T M K R s lf h
  refine bE_of (pe_slice bSl_ok bE_ok bP_ok bP_ok) ?_
  refine bE_mono (sa W tk O F A H σ Γ vs T M _ R s lf h) fun v H1 ⟨d, M1, F1, A1, s1, k1⟩ => ?_
  refine bP_mono (sl W tk O F1 A1 H1 σ Γ (v :: vs) (d :: T) M1 _ R s1 lf.pop k1) fun l H2 ⟨M2, F2, A2, s2, k2⟩ => ?_
  refine bP_mono (sh W tk O F2 A2 H2 σ Γ (v :: vs) (d :: T) M2 _ R s2 lf.pop k2) fun u H3 ⟨M3, F3, A3, s3, k3⟩ => ?_
  have i1 := s3.top
  have s := s3.pop
  have k3 : (match lsOf M3 d with | some a => K (.cel M3.length) (M3 ++ [.ls (L3.cut a l u)]) | none => False) := k3
  cases e : lsOf M3 d with
  | none => rw [e] at k3; exact k3.elim
  | some a =>
    rw [e] at k3
    obtain ⟨p, xs, rfl, hp, q⟩ := s.lst i1 e
    exact ⟨_, sl_list, p, xs, rfl, hp, post_cel s (q.cut l u) k3⟩
/-- what may change, frozen -/
def dFz (t : DE) : DE := fun Γ M K R => t Γ M (fun d M1 => match d with
  | .cel k => ∃ l, M1[k]? = some (.ls l) ∧ K (.ls l) (M1.set k .dead)
  | d => K d M1) R
theorem se_fz (sa : SE X e te) : SE X e (dFz te) := fun W tk O F A H σ Γ vs T M K R s lf h =>
  bE_mono (sa W tk O F A H σ Γ vs T M _ R s lf h) fun v H1 ⟨d, M1, F1, A1, s1, k⟩ => by
    cases d with
    | cel k' =>
      obtain ⟨l, hm, kk⟩ := k
      obtain ⟨a, F', ha, s', i'⟩ := StOk.frz s1.pop hm
      obtain ⟨b, rfl, hb⟩ := is_cel s1.top
      rw [ha] at hb
      cases hb
      exact ⟨.ls l, _, F', A1, s'.push i', kk⟩
    | _ => exact ⟨_, M1, F1, A1, s1, k⟩
/-! ### calls: the j-th argument is a changing object -/
def cBagA (j : Nat) (S : DSpec) (Γ : G) (ds : List D) (M : MM) (K : Kd) (R : Rx) : Prop := ∃ k, ds[j]? = some (.cel k) ∧ cBag k S Γ ds M K R
theorem ck_bagA {S : DSpec} (j : Nat) : CallK X S (cBagA j S) := ⟨fun s lf p ⟨_, _, h⟩ => sp_bag s lf p h⟩
/-! ### names of the module -/
theorem se_gstr {x s : Str} {l : List Nat} (h : ∃ t, X.mg x = some (.str s t)) (hg : Gl X x := by rfl) (e : s = SS l := by rfl) (ha : Asc l := by exact asc_by rfl) (hd : (x == ("__debug__" : Str)) = false := by decide) : SE X (.Name x pos) (dC (.str l)) := by
  obtain ⟨t, h⟩ := h
  exact se_glob (v := .str s) hg h ⟨t, rfl⟩ (fun _ _ => by rw [e]; exact .str l ha) hd
theorem se_gint {x : Str} {i : Int} (h : ∃ t, X.mg x = some (.int i t)) (hg : Gl X x := by rfl) (hd : (x == ("__debug__" : Str)) = false := by decide) : SE X (.Name x pos) (dC (.int i)) := by
  obtain ⟨t, h⟩ := h
  exact se_glob (v := .int i) hg h ⟨t, rfl⟩ (fun _ _ => .int i) hd
/-- t = e, several targets -/
def dUnp (tg : Tgt) (t : DE) : DS := fun E Γ M => t Γ M (fun d M1 => tg.d d Γ fun Γ' => E.nx Γ' M1) E.rz
theorem ss_unp {tgt : Expr} {g : Tgt} (sa : SE X e te) (hg : PG X tgt (g.h X.K)) (hs : swapsWithSole [tgt] e pos.line X.env = pure false := by rfl) (hw : swappedStores [tgt] e X.env = pure none := by rfl)
    (h1 : (assignEach [tgt] X.env).map (·.2) = [assign tgt X.env] := by rfl) : SS' X (.Assign [tgt] e pos) (dUnp g te) := fun W tk O F A H σ Γ vs T M E s lf h => by
  refine bS_of (ps_asg bE_ok hg hs hw h1) ?_
  refine bE_mono (sa W tk O F A H σ Γ vs T M _ _ s lf h) fun v H1 ⟨d, M1, F1, A1, s1, k⟩ => ?_
  obtain ⟨ys, Γ', hQ, s2, k2⟩ := g.go s1.pop s1.top k
  exact hQ _ ⟨Γ', M1, F1, A1, s2, k2⟩
end
/-! ### a def called with keywords -/
structure FDK (P : Program) (w : World) (K : PySem.W.Frag) (mg : Str → Option Value) (base : Heap) (x : Str) (k : Nat) (S : DSpec) (n : Nat) (ks : List Str) (gD : List D → List D → List D) : Prop where
  ex : ∃ f fd ps g gV, FnOk P w K mg base (L2.CX P w) k f fd ps (spOf K mg S) ∧ mg x = some (.ref f) ∧ PySem.W.keepIn K (.ref f) = true ∧ KBn K fd ps n ks g gV ∧
    ∀ {A F vs zs ds es}, IsL K mg A F vs ds → IsL K mg A F zs es → IsL K mg A F (gV vs zs) (gD ds es)
section
variable {X : Cx} {k n : Nat} {S : DSpec} {c : CK} {x : Str} {p pos : Pos} {e : Expr} {es : List Expr} {t u : DA} {ks : List Str} {kws : List Keyword} {gD : List D → List D → List D}
theorem se_fdK (h : FDK X.prog X.w X.K X.mg X.base x k S n ks gD) (ck : CallK X S c) (hr : Room k X.A) (sa : SA X (e :: es) t) (sk : SK X kws u) (hg : Gl X x := by rfl) (hall : (backToKw pos (keywordEach kws X.env)).all (·.1.isSome) = true := by rfl) (hks : (backToKw pos (keywordEach kws X.env)).filterMap (·.1) = ks := by rfl)
    (hdb : (x == ("__debug__" : Str)) = false := by decide) (he : starEach (e :: es) X.env = (false, eval e X.env) :: starEach es X.env := by rfl)
    (hpl : ((backTo pos (starEach (e :: es) X.env)).any (·.1) || (backToKw pos (keywordEach kws X.env)).any (·.1.isNone)) = false := by rfl) {m : Nat} (hm : ks.length = m := by rfl) : SE X (.Call (.Name x p) (e :: es) kws pos) (dFnK c gD n m t u) := by
  subst hm
  obtain ⟨f, fd, ps, g, gV, F, m, kp, b, i⟩ := h.ex
  exact se_fnK F ck hr m kp b i sa sk hg hall hks hdb he hpl
end
/-! ### a def that makes a list is one that hands back plain data -/
def sPure (S : DSpec) : DSpec := fun ds M K R => M = [] ∧ S ds [] (fun d M' => ∃ l, d = .cel 0 ∧ M' = [.ls l] ∧ (∀ d ∈ l, Gr d) ∧ K (.ls l) []) (fun x M' => M' = [] ∧ R x [])
theorem fd_pure {P : Program} {w : World} {K : PySem.W.Frag} {mg : Str → Option Value} {base : Heap} {x : Str} {k : Nat} {S : DSpec} {dv : List D} (h : FD P w K mg base x k S dv) : FD P w K mg base x k (sPure S) dv := by
  obtain ⟨f, fd, ps, dV, dvs, F, m, kp, b, v, i⟩ := h.ex
  refine ⟨f, fd, ps, dV, dvs, F.imp fun vs H Q E hh => ?_, m, kp, b, v, i⟩
  obtain ⟨F0, A0, M0, ds, K0, R0, mem, p, ⟨rfl, hS⟩, hq, he⟩ := hh
  obtain rfl := len0 mem
  refine ⟨F0, [], [], ds, _, _, mem, p, hS, ?_, ?_⟩
  · rintro d M' ⟨l, rfl, rfl, g, kk⟩ v F' A' H' wt m' is
    obtain ⟨q, rfl⟩ := len1 m'
    obtain ⟨a, rfl, e⟩ := is_cel is
    have e : q = a := by simpa using e
    subst e
    obtain ⟨hF, xs, hH, pp⟩ := m'.cells 0 q _ rfl rfl
    have hq0 : H q = none := wt.frs q (by simp) (by simp)
    refine hq (.ls l) [] kk (.ref q) (upd F' q (.lst xs)) [] H' ⟨wt.exF.trans (Ex.new hF), List.prefix_refl _, fun a o _ e => wt.keep a o (by simp) e, fun a h => (nomatch h), fun a o e => ?_⟩ ⟨fun a o e => ?_, List.nodup_nil, fun a h => (nomatch h), rfl, fun k a m h => by simp at h⟩ (Is.lsL upd_same ?_)
    · by_cases z : a = q
      · exact .inr (.inl (by rw [z]; exact hq0))
      · rw [upd_ne z] at e
        rcases wt.nw a o e with h | h | h
        · exact .inl h
        · exact .inr (.inl h)
        · exact .inr (.inr h)
    · by_cases z : a = q
      · subst z
        rw [upd_same] at e
        rw [hH, e]
      · rw [upd_ne z] at e
        exact m'.ex a o e
    · exact (pp.gr g).mono (Ex.new hF) (List.prefix_refl _)
  · rintro x M' ⟨rfl, kk⟩ cls dd F' A' H' wt m' xi
    obtain rfl := len0 m'
    exact he x [] kk cls dd F' [] H' wt m' xi
end L3

namespace L3
open PySem PySem.Spec PyProof.Rows L2 Evl
open Classical

/-! ### plain laws of what the readings name -/
theorem cut_from {α : Type} (l : List α) (k : Nat) : cut l (some (k : Int)) none = l.drop k := by
  unfold cut
  rw [HT.sIx_none, HT.sIx_nat]
  by_cases h : k ≤ l.length
  · rw [Nat.min_eq_left h]
    exact List.take_of_length_le (by simp)
  · rw [Nat.min_eq_right (by omega), List.drop_length, List.drop_of_length_le (by omega)]
    simp
theorem cut_to {α : Type} (l : List α) (k : Nat) : cut l none (some (k : Int)) = l.take k := by
  unfold cut
  rw [HT.sIx_none, HT.sIx_nat, List.drop_zero, Nat.sub_zero]
  by_cases h : k ≤ l.length
  · rw [Nat.min_eq_left h]
  · rw [Nat.min_eq_right (by omega), List.take_of_length_le (Nat.le_refl _), List.take_of_length_le (by omega)]
theorem cut_between {α : Type} (l : List α) (i k : Nat) : cut l (some (i : Int)) (some (k : Int)) = (l.drop i).take (k - i) := by
  unfold cut
  rw [HT.sIx_nat, HT.sIx_nat]
  by_cases h : i ≤ l.length
  · rw [Nat.min_eq_left h]
    by_cases h2 : k ≤ l.length
    · rw [Nat.min_eq_left h2]
    · rw [Nat.min_eq_right (by omega), List.take_of_length_le (by simp), List.take_of_length_le (by simp; omega)]
  · rw [Nat.min_eq_right (a := i) (by omega), List.drop_length, List.drop_of_length_le (by omega)]
    simp
theorem cut_from1 {α : Type} (l : List α) : cut l (some 1) none = l.drop 1 := cut_from l 1
theorem cut_init {α : Type} (l : List α) : cut l none (some (-1)) = l.dropLast := by
  unfold cut
  rw [HT.sIx_none, List.drop_zero, Nat.sub_zero, List.dropLast_eq_take]
  congr 1
  show (if (-1 : Int) < 0 then (-1 + (l.length : Int)).toNat else min (-1 : Int).toNat l.length) = _
  rw [if_pos (by decide)]
  omega
theorem atI_nat {α : Type} (l : List α) (k : Nat) : atI l (k : Int) = l[k]? := by
  unfold atI ixN
  rw [if_pos (by omega)]
  by_cases h : (k : Int) < l.length
  · rw [if_pos h]
    show l[(k : Int).toNat]? = _
    rw [Int.toNat_natCast]
  · rw [if_neg h]
    exact (List.getElem?_eq_none (by omega)).symm
theorem atI_0 {α : Type} (l : List α) : atI l 0 = l[0]? := atI_nat l 0
theorem atI_1 {α : Type} (l : List α) : atI l 1 = l[1]? := atI_nat l 1
theorem atI_2 {α : Type} (l : List α) : atI l 2 = l[2]? := atI_nat l 2
theorem atI_last {α : Type} (l : List α) : atI l (-1) = l.getLast? := by
  unfold atI ixN
  rw [if_neg (by decide)]
  cases l with
  | nil => rfl
  | cons a r =>
    rw [if_pos (by simp; omega)]
    show (a :: r)[(-1 + ((a :: r).length : Int)).toNat]? = _
    rw [List.getLast?_eq_getElem?]
    congr 1
    simp
    omega
theorem nrm9_str (l : List Nat) : nrm 9 (.str l) = .str l := rfl
theorem nrm9_int (l : Int) : nrm 9 (.int l) = .int l := rfl
theorem nrm9_bl (b : Bool) : nrm 9 (.bl b) = .int (if b then 1 else 0) := rfl
theorem nrm9_non : nrm 9 .non = .non := rfl
theorem nrm_strs (n : Nat) (l : List (List Nat)) : (l.map D.str).map (nrm n) = l.map .str := by
  rw [List.map_map]
  exact List.map_congr_left fun s _ => nrm_str n s
theorem nrm_ints (n : Nat) (l : List Int) : (l.map D.int).map (nrm n) = l.map .int := by
  rw [List.map_map]
  exact List.map_congr_left fun s _ => nrm_int n s
theorem pl_strs (n : Nat) (l : List (List Nat)) : ∀ d ∈ l.map D.str, Pl n d := by
  intro d hd
  obtain ⟨s, _, rfl⟩ := List.mem_map.mp hd
  rw [pl_str]
  trivial
theorem map_str_inj {a b : List (List Nat)} : a.map D.str = b.map D.str ↔ a = b := by
  constructor
  · intro h
    exact (List.map_inj_right (f := D.str) (fun _ _ e => by cases e; rfl)).mp h
  · intro h; rw [h]
/-- equality of two texts, two lists of texts, two numbers -/
theorem eq_str (M : MM) (a b : List Nat) : eqD M (.str a) (.str b) ↔ a = b := by
  show nrm 9 (.str a) = nrm 9 (.str b) ↔ _
  rw [nrm9_str, nrm9_str, D.str.injEq]
theorem eq_int (M : MM) (a b : Int) : eqD M (.int a) (.int b) ↔ a = b := by
  show nrm 9 (.int a) = nrm 9 (.int b) ↔ _
  rw [nrm9_int, nrm9_int, D.int.injEq]
theorem eq_bl (M : MM) (a b : Bool) : eqD M (.bl a) (.bl b) ↔ a = b := by
  show nrm 9 (.bl a) = nrm 9 (.bl b) ↔ _
  rw [nrm9_bl, nrm9_bl, D.int.injEq]
  cases a <;> cases b <;> simp
theorem eq_strs (M : MM) (a b : List (List Nat)) : eqD M (.ls (a.map .str)) (.ls (b.map .str)) ↔ a = b := by
  show D.ls ((a.map D.str).map (nrm 8)) = D.ls ((b.map D.str).map (nrm 8)) ↔ _
  rw [nrm_strs, nrm_strs, D.ls.injEq, map_str_inj]
theorem eq_nstr (M : MM) (b : List Nat) : eqD M .non (.str b) ↔ False := by
  show nrm 9 .non = nrm 9 (.str b) ↔ _
  rw [nrm9_str, nrm9_non]
  constructor
  · intro h; cases h
  · exact False.elim
theorem eq_strn (M : MM) (b : List Nat) : eqD M (.str b) .non ↔ False := by
  show nrm 9 (.str b) = nrm 9 .non ↔ _
  rw [nrm9_str, nrm9_non]
  constructor
  · intro h; cases h
  · exact False.elim
/-- a test of two plain texts -/
theorem eqS_iff {neg : Bool} {M : MM} {K : Kd} {a b : List Nat} : rEqD' neg (.str a) (.str b) M K ↔ K (.bl (if neg then !decide (a = b) else decide (a = b))) M := by
  unfold rEqD'
  rw [show decide (eqD M (.str a) (.str b)) = decide (a = b) from decide_eq_decide.mpr (eq_str M a b)]
  exact ⟨fun h => h.2.2, fun h => ⟨trivial, trivial, h⟩⟩
theorem eqI_iff {neg : Bool} {M : MM} {K : Kd} {a b : Int} : rEqD' neg (.int a) (.int b) M K ↔ K (.bl (if neg then !decide (a = b) else decide (a = b))) M := by
  unfold rEqD'
  rw [show decide (eqD M (.int a) (.int b)) = decide (a = b) from decide_eq_decide.mpr (eq_int M a b)]
  exact ⟨fun h => h.2.2, fun h => ⟨trivial, trivial, h⟩⟩
theorem eqB_iff {neg : Bool} {M : MM} {K : Kd} {a b : Bool} : rEqD' neg (.bl a) (.bl b) M K ↔ K (.bl (if neg then !decide (a = b) else decide (a = b))) M := by
  unfold rEqD'
  rw [show decide (eqD M (.bl a) (.bl b)) = decide (a = b) from decide_eq_decide.mpr (eq_bl M a b)]
  exact ⟨fun h => h.2.2, fun h => ⟨trivial, trivial, h⟩⟩
theorem eqL_iff {neg : Bool} {M : MM} {K : Kd} {a b : List (List Nat)} : rEqD' neg (.ls (a.map .str)) (.ls (b.map .str)) M K ↔ K (.bl (if neg then !decide (a = b) else decide (a = b))) M := by
  unfold rEqD'
  rw [show decide (eqD M (.ls (a.map .str)) (.ls (b.map .str))) = decide (a = b) from decide_eq_decide.mpr (eq_strs M a b)]
  exact ⟨fun h => h.2.2, fun h => ⟨pl_strs 8 a, pl_strs 8 b, h⟩⟩
theorem view_cel {M : MM} {k : Nat} {l : List D} (h : M[k]? = some (.ls l)) : view M (.cel k) = .ls l := by
  show (match M[k]? with | some (.ls l) => .ls l | _ => .cel k) = D.ls l
  rw [h]
theorem eqC_iff {neg : Bool} {M : MM} {K : Kd} {k : Nat} {a b : List (List Nat)} (hk : M[k]? = some (.ls (a.map .str))) : rEqD' neg (.cel k) (.ls (b.map .str)) M K ↔ K (.bl (if neg then !decide (a = b) else decide (a = b))) M := by
  have e : rEqD' neg (.cel k) (.ls (b.map .str)) M K ↔ rEqD' neg (.ls (a.map .str)) (.ls (b.map .str)) M K := by
    unfold rEqD' eqD
    rw [view_cel hk]
    rfl
  rw [e, eqL_iff]
theorem lsOwn_cel {M : MM} {k : Nat} {l : List D} (h : M[k]? = some (.ls l)) : lsOwn M (.cel k) = some l := by
  show (match M[k]? with | some (.ls l) => some l | _ => none) = some l
  rw [h]
theorem lsOf_cel {M : MM} {k : Nat} {l : List D} (h : M[k]? = some (.ls l)) : lsOf M (.cel k) = some l := lsOwn_cel h
theorem get_snoc {M : MM} {m : MO} : (M ++ [m])[M.length]? = some m := by
  rw [List.getElem?_append_right (Nat.le_refl _), Nat.sub_self]
  rfl
theorem get_snocL {M : MM} {m m' : MO} {k : Nat} (h : M[k]? = some m) : (M ++ [m'])[k]? = some m := by
  rw [List.getElem?_append_left (List.getElem?_eq_some_iff.mp h).1]
  exact h
theorem set_snoc {M : MM} {m m' : MO} : (M ++ [m]).set M.length m' = M ++ [m'] := by
  rw [List.set_append_right _ _ (Nat.le_refl _), Nat.sub_self]
  rfl
theorem get_set {M : MM} {m m' : MO} {k : Nat} (h : M[k]? = some m) : (M.set k m')[k]? = some m' :=
  List.getElem?_set_self (List.getElem?_eq_some_iff.mp h).1
theorem get_setN {M : MM} {m m' : MO} {k j : Nat} (h : M[k]? = some m) (hn : j ≠ k) : (M.set j m')[k]? = some m := by
  rw [List.getElem?_set_ne hn]
  exact h
/-- the body of a for, item by item -/
theorem for_ind {chk : MM → Prop} {tg : Tgt} {body : DS} {E : DEnds} {P : List D → G → MM → Prop} (h0 : ∀ Γ M, P [] Γ M → chk M ∧ E.nx Γ M)
    (h1 : ∀ d r Γ M (N : G → MM → Prop), (∀ Γ' M', P r Γ' M' → N Γ' M') → P (d :: r) Γ M → chk M ∧ tg.d d Γ fun Γ' => body { E with nx := N, ct := N, bk := E.nx } Γ' M) : ∀ (l : List D) (Γ : G) (M : MM), P l Γ M → forD chk tg body E l Γ M
  | [], Γ, M, p => h0 Γ M p
  | d :: r, Γ, M, p => h1 d r Γ M _ (fun Γ' M' q => for_ind h0 h1 r Γ' M' q) p
/-- .. of a comprehension -/
theorem comp_ind {chk : MM → Prop} {tg : Tgt} {tt : DT} {te : DE} {Γw : G} {K : Kd} {P : List D → List D → MM → Prop} (h0 : ∀ acc M, P [] acc M → chk M ∧ K (.ls acc) M)
    (h1 : ∀ d r acc M (N : List D → MM → Prop), (∀ acc' M', P r acc' M' → N acc' M') → P (d :: r) acc M → chk M ∧ tg.d d Γw fun Γ' => tt Γ' M (fun b M1 => if b = true then te Γ' M1 (fun y M2 => acc.length < 16777216 ∧ N (acc ++ [y]) M2) (fun _ _ _ => False) else N acc M1) (fun _ _ _ => False)) : ∀ (l acc : List D) (M : MM), P l acc M → compD chk tg tt te Γw K l acc M
  | [], acc, M, p => h0 acc M p
  | d :: r, acc, M, p => h1 d r acc M _ (fun acc' M' q => comp_ind h0 h1 r acc' M' q) p
end L3
namespace L3
open PySem PySem.Spec PyProof.Rows L2 Evl
open Classical
theorem lsOwn_ls {M : MM} {l : List D} : lsOwn M (.ls l) = some l := rfl
theorem lsOf_ls {M : MM} {l : List D} : lsOf M (.ls l) = some l := rfl
theorem lsOf_rl {M : MM} {l : List D} : lsOf M (.rl l) = some l := rfl
theorem sqOf_ls {M : MM} {l : List D} : sqOf M (.ls l) = some l := rfl
theorem sqOf_rl {M : MM} {l : List D} : sqOf M (.rl l) = some l := rfl
theorem sqOf_tp {M : MM} {l : List D} : sqOf M (.tp l) = some l := rfl
theorem sqOf_cel {M : MM} {k : Nat} {l : List D} (h : M[k]? = some (.ls l)) : sqOf M (.cel k) = some l := by
  unfold sqOf
  rw [lsOf_cel h]
  rfl
theorem tpOf_tp {l : List D} : tpOf (.tp l) = some l := rfl
theorem truD_ls {M : MM} {l : List D} : truD M (.ls l) = some (!l.isEmpty) := rfl
theorem truD_rl {M : MM} {l : List D} : truD M (.rl l) = some (!l.isEmpty) := rfl
theorem truD_tp {M : MM} {l : List D} : truD M (.tp l) = some (!l.isEmpty) := rfl
theorem truD_bl {M : MM} {b : Bool} : truD M (.bl b) = some b := rfl
theorem truD_int {M : MM} {b : Int} : truD M (.int b) = some (b != 0) := rfl
theorem truD_non {M : MM} : truD M .non = some false := rfl
theorem truD_str {M : MM} {l : List Nat} (h : l.length ≤ 16777216) : truD M (.str l) = some (!l.isEmpty) := if_pos h
theorem truD_cel {M : MM} {k : Nat} {l : List D} (h : M[k]? = some (.ls l)) : truD M (.cel k) = some (!l.isEmpty) := by
  show (lsOf M (.cel k)).map _ = _
  rw [lsOf_cel h]
  rfl
theorem addC_iff {M : MM} {K : Kd} {x y : D} {a b : List D} (h1 : lsOwn M x = some a) (h2 : lsOwn M y = some b) (k : a.length + b.length ≤ 16777216 ∧ K (.cel M.length) (M ++ [.ls (a ++ b)])) : rAddDC x y M K := by
  unfold rAddDC
  rw [h1, h2]
  exact k
theorem inL_strs {neg : Bool} {M : MM} {K : Kd} {x : D} {y : List Nat} {l : List (List Nat)} (hx : sqOf M x = some (l.map .str)) (h : K (.bl (if neg then !decide (y ∈ l) else decide (y ∈ l))) M) (hn : ∀ t, x ≠ .str t) : rInD neg (.str y) x M K := by
  have e : rInD neg (.str y) x M K = (match sqOf M x with
    | some l => flatD (.str y) ∧ (∀ d ∈ l, flatD d) ∧ K (.bl (if neg then !decide (nrm 0 (.str y) ∈ l.map (nrm 0)) else decide (nrm 0 (.str y) ∈ l.map (nrm 0)))) M
    | none => False) := by
    cases x <;> first | rfl | exact absurd rfl (hn _)
  rw [e, hx]
  refine ⟨trivial, fun d hd => ?_, ?_⟩
  · obtain ⟨s, _, rfl⟩ := List.mem_map.mp hd
    trivial
  · have e2 : decide (nrm 0 (.str y) ∈ (l.map D.str).map (nrm 0)) = decide (y ∈ l) := decide_eq_decide.mpr (by
      rw [nrm_strs, nrm_str, List.mem_map]
      exact ⟨fun ⟨a, h1, h2⟩ => by cases h2; exact h1, fun h => ⟨y, h, rfl⟩⟩)
    rw [e2]
    exact h
end L3
namespace L3
theorem okM0 {M : MM} : OkM 0 M := fun m h => by simp at h
theorem gr_ls_strs (l : List (List Nat)) : Gr (.ls (l.map .str)) := gr_ls.mpr (gr_strs l)
end L3
namespace L3
theorem okM0_iff {M : MM} : OkM 0 M ↔ True := iff_true_intro okM0
theorem gr_str_iff {s : List Nat} : Gr (.str s) ↔ True := Iff.rfl
theorem gr_int_iff {s : Int} : Gr (.int s) ↔ True := Iff.rfl
theorem gr_bl_iff {s : Bool} : Gr (.bl s) ↔ True := Iff.rfl
theorem gr_non_iff : Gr .non ↔ True := Iff.rfl
theorem gr_lss_iff {l : List (List Nat)} : Gr (.ls (l.map .str)) ↔ True := iff_true_intro (gr_ls_strs l)
theorem gr_ls0_iff : Gr (.ls []) ↔ True := iff_true_intro (gr_ls.mpr fun _ h => nomatch h)
end L3
namespace L3
theorem sqOf_1 {l : List D} : sqOf [.ls l] (.cel 0) = some l := rfl
theorem lsOf_1 {l : List D} : lsOf [.ls l] (.cel 0) = some l := rfl
theorem lsOwn_1 {l : List D} : lsOwn [.ls l] (.cel 0) = some l := rfl
theorem ixN_30 : L2.ixN 3 0 = some 0 := rfl
theorem ixN_31 : L2.ixN 3 1 = some 1 := rfl
theorem ixN_32 : L2.ixN 3 2 = some 2 := rfl
theorem ind01 (p : Prop) [Decidable p] : (if p then (1 : Int) else 0) = 0 ∨ (if p then (1 : Int) else 0) = 1 := by
  split
  · exact .inr rfl
  · exact .inl rfl
theorem abs0 (c : Int) : 0 ≤ (if c < 0 then -c else c) := by split <;> omega
end L3
namespace L3
theorem setIx_iff {a : List D} {z : Int} {P : List D → Nat → Prop} : (∃ (l : List D) (j : Nat), some (MO.ls a) = some (MO.ls l) ∧ L2.ixN l.length z = some j ∧ P l j) ↔ ∃ j, L2.ixN a.length z = some j ∧ P a j :=
  ⟨fun ⟨l, j, e, h⟩ => by cases e; exact ⟨j, h⟩, fun ⟨j, h⟩ => ⟨a, j, rfl, h⟩⟩
theorem setIx_iff' {a : List D} {z : Int} {P : List D → Nat → Prop} : (∃ (l : List D) (j : Nat), MO.ls a = MO.ls l ∧ L2.ixN l.length z = some j ∧ P l j) ↔ ∃ j, L2.ixN a.length z = some j ∧ P a j :=
  ⟨fun ⟨l, j, e, h⟩ => by cases e; exact ⟨j, h⟩, fun ⟨j, h⟩ => ⟨a, j, rfl, h⟩⟩
end L3
namespace L3
theorem seq_g {t u : DS} {E : DEnds} {Γ : G} {M : MM} (h : ∀ N, N = u E → t { E with nx := N } Γ M) : dSeq t u E Γ M := h _ rfl
theorem ixR_iff {K : Kd} {M : MM} {l : List D} {d : D} {i : Int} (hl : L2.atI l i = some d) (x : D) (hx : sqOf M x = some l) (hn : ∀ s, x ≠ .str s) (h : K d M) : rIxD x (.int i) M K := by
  have e : rIxD x (.int i) M K = (match sqOf M x with | some l => ∃ d, L2.atI l i = some d ∧ K d M | none => False) := by
    cases x <;> first | rfl | exact absurd rfl (hn _)
  rw [e, hx]
  exact ⟨d, hl, h⟩
end L3
namespace L3
abbrev Tx := List Nat
end L3

namespace L3
open PySem PySem.Spec PyProof.Rows L2 Evl
open Classical
/-! ### a def by its datum -/
abbrev FnP (K : PySem.W.Frag) (x qual : Str) (st : Stmt) (dvs : List V) (kws : List (Str × V)) (f : Addr) (fd : FuncData) : Prop := FunD K x qual (defArgs st) (defBody st) (defScope st) dvs kws f fd
section
variable {P : Program} {w : World} {K : PySem.W.Frag} {mg : Str → Option Value} {base : Heap}
theorem fn_anyD {x qual : Str} {st : Stmt} {dvs : List V} {kws : List (Str × V)} {f : Addr} {fd : FuncData} {N ps : List Str} {k : Nat} {S : DSpec} {rd : DS} {en : Nat → Kd → Kx → DEnds} (F : FnP K x qual st dvs kws f fd) (Sc : FnScope N ps (defScope st)) (eo : EndOk en) (len : ∀ ds M K0 R0, S ds M K0 R0 → ds.length = ps.length)
    (body : BodyD P w K mg base N qual st f k rd) (sem : ∀ ds M K0 R0, S ds M K0 R0 → rd (en M.length K0 R0) (startG N.length ds) M) : FnOk P w K mg base (L2.CX P w) (k + 1) f fd ps (spOf K mg S) := by
  refine F.ok Sc (fun vs H Q E h => ?_) (fun cdv A outer s H vs Q E hr hsp => ⟨_, bB_ok, ?_⟩)
  · obtain ⟨F0, A0, M, ds, K0, R0, m, p, hS, _⟩ := h
    rw [p.len]
    exact len ds M K0 R0 hS
  · obtain ⟨F0, A0, M, ds, K0, R0, m, p, hS, hq, he⟩ := hsp
    have hb := body cdv A outer s H E hr
    have st0 : StOk (cxD P w K mg base N qual (defScope st) f cdv A outer s H E) ⟨F0, H, A0⟩ F0 A0 H (L2.start N vs) (startG N.length ds) [] [] M := start_ok m p
    have tk : Takes (cxD P w K mg base N qual (defScope st) f cdv A outer s H E) (fun cls d _ H => E cls d H) := takes_of rfl rfl rfl rfl
    refine bB_mono (hb _ tk ⟨F0, H, A0⟩ F0 A0 H _ _ [] [] M (en M.length K0 R0) st0 ?_ (sem ds M K0 R0 hS)) ?_ ?_ ?_ ?_
    · intro x' σ' Γ' M' F' A' H' cls d s' xi h
      obtain ⟨A2, M2, w2, m2, i2, k2⟩ := eo.rz (K0 := K0) m.len.symm s' xi h
      exact he x' M2 k2 cls d F' A2 H' w2 m2 i2
    · rintro σ' H' ⟨Γ', M', F', A', s', h⟩
      obtain ⟨A2, M2, w2, m2, k2⟩ := eo.nx (R0 := R0) m.len.symm s' h
      exact hq .non M2 k2 .non F' A2 H' w2 m2 .non
    · rintro v H' ⟨d, M', F', A', σ', Γ', s', h⟩
      obtain ⟨A2, M2, d2, w2, m2, i2, k2⟩ := eo.rt (R0 := R0) m.len.symm s'.pop s'.top h
      exact hq d2 M2 k2 v F' A2 H' w2 m2 i2
    · rintro σ' H' ⟨Γ', M', F', A', s', h⟩
      exact eo.bk h
    · rintro σ' H' ⟨Γ', M', F', A', s', h⟩
      exact eo.ct h
/-- no defaults: every parameter is written -/
theorem fd_plain {x : Str} {k : Nat} {S : DSpec} {f : Addr} {fd : FuncData} {ps : List Str} (F : FnOk P w K mg base (L2.CX P w) k f fd ps (spOf K mg S)) (m : mg x = some (.ref f)) (kp : PySem.W.keepIn K (.ref f) = true) (b : Binds K fd ps []) : FD P w K mg base x k S [] :=
  ⟨f, fd, ps, [], [], F, m, kp, b, .nil, fun _ _ => .nil⟩
/-- .. some fill up -/
theorem fd_dfl {x : Str} {k : Nat} {S : DSpec} {f : Addr} {fd : FuncData} {ps : List Str} {dvs : List V} {dv : List D} (F : FnOk P w K mg base (L2.CX P w) k f fd ps (spOf K mg S)) (m : mg x = some (.ref f)) (kp : PySem.W.keepIn K (.ref f) = true) (b : ∃ ds, Vals dvs ds ∧ Binds K fd ps ds)
    (i : ∀ A F, IsL K mg A F dvs dv) : FD P w K mg base x k S dv := by
  obtain ⟨ds, v, b⟩ := b
  exact ⟨f, fd, ps, ds, dvs, F, m, kp, b, v, i⟩
theorem fd_kw {x : Str} {k n : Nat} {S : DSpec} {f : Addr} {fd : FuncData} {ps ks : List Str} {g : List Value → List Value → List Value} {gV : List V → List V → List V} {gD : List D → List D → List D} (F : FnOk P w K mg base (L2.CX P w) k f fd ps (spOf K mg S)) (m : mg x = some (.ref f)) (kp : PySem.W.keepIn K (.ref f) = true)
    (b : KBn K fd ps n ks g gV) (i : ∀ {A F vs zs ds es}, IsL K mg A F vs ds → IsL K mg A F zs es → IsL K mg A F (gV vs zs) (gD ds es)) : FDK P w K mg base x k S n ks gD :=
  ⟨f, fd, ps, g, gV, F, m, kp, b, i⟩
end
/-- a law's end -/
theorem walk_ofEw {l : PySem.W.OpenLaw} {n k : Nat} {q : Program} {loose : List Str} {XP : (Str → Option Value) → Heap → Prop} {YP : World → Heap → Prop} {d : DefRec} {CX : World → CXT} {x : Str}
    (hn : l.most = some n) (hn2 : n ≤ sizeLine) (hdf : d.params.defaults = []) (hr : Room k callerA)
    (F : ∀ (w : World) (mg : Str → Option Value) (fa : Addr) (h : Heap), YP w h → h.Ns mainGlobals mg → mg d.name = some (.ref fa) →
      ∃ (K : PySem.W.Frag) (fd : FuncData) (sp : Sp), K.In h ∧ (∀ (s : Shared) (u : Value), BindsTo s fd ⟨[u], []⟩ [(x, u)]) ∧
        (∀ (H : Hp) (a : Addr) (ns : List Int), ns.length ≤ n → Only H → SqL K H a (ns.map V.int) → sp [.ref a] H (fun v _ => v = .bl true) fun _ _ _ => False) ∧
        ∀ base : Heap, K.In base → base.Ns mainGlobals mg → FnOk l.prog w K mg base (CX w) k fa fd [x] sp)
    (hCX : ∀ (w : World) (H : Hp) (s : Shared) (e : Value) (s' : Shared), CX w [] H s (fun _ _ _ => False) e s' → False) :
    PySem.W.WalkO q loose XP YP l.row.toRowW d [] (fun f vs => PySem.call f vs) := by
  refine Att.attach_call hn hdf fun w s₀ s₁ mg mb fa o pm cd doc a vs ns G Y ho hd hcd hmg hobj hints hlen hg => ?_
  obtain ⟨K, fd, sp, KX, hb, hsp, hF⟩ := F w mg fa _ Y G.T.g hmg
  exact law_call KX G.T.g G.T.b G.T.builtins G.T.nolimit hg hobj hints (Nat.le_trans hlen hn2) hr hF hb (fun H hO hS => hsp H a ns hlen hO hS) fun H e s' => hCX w H s₁ e s'
end L3
namespace L3
open PySem PySem.Spec PyProof.Rows L2 Evl
open Classical
/-! ### a comparison as a test -/
def IsB (r : DO2) : Prop := ∀ d1 d2 M K, r d1 d2 M K → r d1 d2 M (fun d M' => (∃ b, d = .bl b) ∧ K d M')
theorem isb_eq {neg : Bool} : IsB (rEqD' neg) := fun d1 d2 M K h => ⟨h.1, h.2.1, ⟨_, rfl⟩, h.2.2⟩
theorem isb_is {neg : Bool} : IsB (rIsN' neg) := fun d1 d2 M K h => ⟨h.1, ⟨_, rfl⟩, h.2⟩
theorem isb_ord {fi : Int → Int → Bool} {fs : List Nat → List Nat → Bool} : IsB (rOrdD fi fs) := fun d1 d2 M K h => by
  cases d1 with
  | int i => cases d2 with
    | int j => exact ⟨⟨_, rfl⟩, h⟩
    | _ => exact h.elim
  | str i => cases d2 with
    | str j => exact ⟨⟨_, rfl⟩, h⟩
    | _ => exact h.elim
  | _ => exact h.elim
theorem isb_in {neg : Bool} : IsB (rInD neg) := fun d1 d2 M K h => by
  have rest : (match sqOf M d2 with
    | some l => flatD d1 ∧ (∀ d ∈ l, flatD d) ∧ K (.bl (if neg then !decide (nrm 0 d1 ∈ l.map (nrm 0)) else decide (nrm 0 d1 ∈ l.map (nrm 0)))) M
    | none => False) → (match sqOf M d2 with
    | some l => flatD d1 ∧ (∀ d ∈ l, flatD d) ∧ ((∃ b, (D.bl (if neg then !decide (nrm 0 d1 ∈ l.map (nrm 0)) else decide (nrm 0 d1 ∈ l.map (nrm 0)))) = .bl b) ∧ K (.bl (if neg then !decide (nrm 0 d1 ∈ l.map (nrm 0)) else decide (nrm 0 d1 ∈ l.map (nrm 0)))) M)
    | none => False) := fun h => by
    cases q : sqOf M d2 with
    | none => rw [q] at h; exact h
    | some l =>
      rw [q] at h
      exact ⟨h.1, h.2.1, ⟨_, rfl⟩, h.2.2⟩
  cases d1 with
  | str i => cases d2 with
    | str j => exact ⟨⟨_, rfl⟩, h⟩
    | _ => exact rest h
  | _ => exact rest h
section
variable {X : Cx} {a b : Expr} {ta tb : DE} {pos : Pos}
theorem st_cmp {op : CmpOp} {r : DO2} (hi : IsB r) (ho : OpD X (compareOp op) r) (sa : SE X a ta) (sb : SE X b tb) (hm : behindInMarks op b = false := by first | exact nomark _ | rfl) : ST X (.Compare a [op] [b] pos) (qTru (dOp r ta tb)) := fun W tk O F A H σ Γ vs T M K R s lf h => by
  refine bT_of (pt_cmpR bO_ok bE_ok bE_ok hm) ?_
  exact two sa sb tk s lf h fun v1 v2 d1 d2 M2 F2 A2 H2 s2 i1 i2 k => bO_mono (ho O F2 A2 H2 σ Γ vs T M2 _ v1 v2 d1 d2 s2 i1 i2 (hi _ _ _ _ k)) fun v H' ⟨d, M', F', A', s', ⟨b, e⟩, c, hc, kk⟩ => by
    subst e
    have e2 : c = b := (Option.some.inj hc).symm
    subst e2
    exact ⟨c, is_bl s'.top, M', F', A', s'.pop, kk⟩
end
open PySem PySem.Spec PyProof.Rows L2 Evl
theorem cx_no {P : Program} {w : World} {outer : List Env} {H : Hp} {s : Shared} {u : Value} {s' : Shared} (h : L2.CX P w outer H s (fun _ _ _ => False) u s') : False := by
  obtain ⟨a, B, H', cls, d, _, _, _, _, _, _, _, h⟩ := h
  exact h
end L3

namespace L3
open PySem PySem.Spec PyProof.Rows L2 Evl
open Classical

/-! ### mirrors -/
def segs (p : Tx) : List Tx := spC 47 (p.drop 1)
def pstep (acc : List Tx) (s : Tx) : List Tx := if s = [46, 46] then acc.dropLast else if s = [46] then acc else acc ++ [s]
def push (acc rows : List Tx) : List Tx := rows.foldl pstep acc
def dotty (s : Tx) : Bool := s == [46] || s == [46, 46]
def lastS (p : Tx) : Tx := (segs p).getLast (spC_ne 47 _)
def stackOf (p : Tx) : List Tx := if dotty (lastS p) = true then push [] (segs p) ++ [[]] else push [] (segs p)
def written (h : List Tx) (au : Bool) : Tx := if (au || !([47, 47].isPrefixOf (47 :: jn [47] h))) = true then 47 :: jn [47] h else 47 :: 46 :: 47 :: jn [47] h
def cleanedP (p : Tx) (au : Bool) : Tx := if [47].isPrefixOf p = true then written (stackOf p) au else p
/-! weights: no text grows too long -/
def wt (l : List Tx) : Nat := (l.map List.length).sum + l.length
theorem wt_app (a b : List Tx) : wt (a ++ b) = wt a + wt b := by
  unfold wt
  rw [List.map_append, List.sum_append, List.length_append]
  omega
theorem wt_spC (c : Nat) : ∀ l : Tx, wt (spC c l) = l.length + 1
  | [] => rfl
  | x :: r => by
    have ih := wt_spC c r
    by_cases h : x = c
    · rw [spC_hit r h]
      unfold wt at ih ⊢
      simp only [List.map_cons, List.sum_cons, List.length_cons, List.length_nil]
      omega
    · cases e : spC c r with
      | nil => exact absurd e (spC_ne c r)
      | cons a b =>
        rw [spC_miss h e]
        rw [e] at ih
        unfold wt at ih ⊢
        simp only [List.map_cons, List.sum_cons, List.length_cons] at ih ⊢
        omega
theorem wt_init (l : List Tx) : wt l.dropLast ≤ wt l := by
  rcases List.eq_nil_or_concat l with h | ⟨a, b, h⟩
  · rw [h]; exact Nat.le_refl _
  · rw [h, List.concat_eq_append, List.dropLast_concat, wt_app]
    omega
theorem wt_pstep (acc : List Tx) (s : Tx) : wt (pstep acc s) ≤ wt acc + wt [s] := by
  unfold pstep
  split
  · have := wt_init acc
    omega
  · split
    · omega
    · rw [wt_app]
      omega
theorem wt_push : ∀ (rows acc : List Tx), wt (push acc rows) ≤ wt acc + wt rows
  | [], acc => by show wt acc ≤ _; omega
  | s :: r, acc => by
    have h1 := wt_push r (pstep acc s)
    have h2 := wt_pstep acc s
    have e : wt (s :: r) = wt [s] + wt r := wt_app [s] r
    show wt (push (pstep acc s) r) ≤ _
    omega
theorem len_le_wt (l : List Tx) : l.length ≤ wt l := by unfold wt; omega
theorem wt_stackOf (p : Tx) : wt (stackOf p) ≤ p.length + 2 := by
  have h1 := wt_push (segs p) []
  have h2 : wt (segs p) = (p.drop 1).length + 1 := wt_spC 47 _
  have h3 : (p.drop 1).length ≤ p.length := by simp
  have h4 : wt ([] : List Tx) = 0 := rfl
  have h5 : wt ([[]] : List Tx) = 1 := rfl
  unfold stackOf
  split
  · rw [wt_app]; omega
  · omega
theorem jn_wt (l : List Tx) : (jn [47] l).length ≤ wt l := by
  have := jn_len [47] l
  unfold wt
  simp at this ⊢
  omega

/-! ### segments -/
def sp_p_segments : DSpec := fun ds M K _ => ∃ p : Tx, ds = [.str p] ∧ M = [] ∧ p.length ≤ 1000 ∧ K (.ls ((segs p).map .str)) []
def rd_p_segments : DS :=
  (dRet (dM mSplit (dSl (dVar 0) (dPart (dC (.int 1))) dNo) (aCons (dC (.str [47])) aNil)))
theorem sem_p_segments (ds : List D) (M : MM) (K0 : Kd) (R0 : Kx) (h : sp_p_segments ds M K0 R0) : rd_p_segments (endG M.length K0 R0) (startG 1 ds) M := by
  obtain ⟨p, rfl, rfl, hp, k⟩ := h
  simp only [rd_p_segments, dSeq, dNext, dRet, dRetN, dDrop, dSet, dIfS, dBrk, dCnt, dPar, dAug, dSetIx, dFor, dUnp, dVar, dC, dOp, dSl, dSlC, dPart, dNo, dTup, dLst, dLstC, dIf, dNot, dAnd, dOr, rNegD, dCall, dM, dM0, dApp, dFrz, dFz, dLc, dFn, dFn0, dFnK, aCons, aNil,
    qTru, qNot, qAnd, qOr, qYes, iLst, iTp, iStr', iR1, iR2, Tgt.d, setAll, wipeG, rAddD, rSubD, rMulD, rModD, rFdivD, rPowD, rOrdD, rIAddD, rIsN', rIxD, rSlD, rLen, rAbs, rMax2, rMin2, rInt1, rOrd, rListOf, rListOfC, rTupleOf, rIsiD,
    mSplit, mPart, mJoin, mStarts, mEnds, startG, endG, endN, endW, eqS_iff, eqI_iff, eqB_iff, eqL_iff, lsOwn_ls, lsOf_ls, lsOf_rl, sqOf_ls, sqOf_rl, sqOf_tp, tpOf_tp, truD_ls, truD_rl, truD_tp, truD_bl, truD_int, truD_non, cPure, cNew, cBagA, sPure, isNon, flatD, tyD,
    cut_from1, cut_init, atI_0, atI_1, atI_2, atI_last, List.map_cons, List.map_nil, List.cons_append, List.nil_append, List.replicate, List.getElem?_cons_zero, List.getElem?_cons_succ, List.getElem?_nil, List.set_cons_zero, List.set_cons_succ, Option.some.injEq, exists_eq_left', exists_eq_left, Option.some_or, Option.none_or, Option.or_some, List.length_cons, List.length_nil, List.length_map, Nat.sub_zero, Nat.reduceSub, Nat.reduceAdd, Nat.reduceLeDiff, List.isEmpty_cons, List.isEmpty_nil, true_and, and_true, if_true, if_false, reduceIte, Bool.not_true, Bool.not_false, Bool.false_eq_true, reduceCtorEq, List.forall_mem_cons, List.forall_mem_nil, implies_true, List.mem_singleton, forall_eq, decide_eq_true_eq, Bool.not_eq_true', decide_eq_false_iff_not, okM0_iff, List.take_zero, gr_str_iff, gr_int_iff, gr_bl_iff, gr_non_iff, gr_lss_iff, gr_ls0_iff, sqOf_1, lsOf_1, lsOwn_1, ixN_30, ixN_31, ixN_32, setIx_iff, setIx_iff', D.cel.injEq, not_true_eq_false, not_false_eq_true]
  refine ⟨by omega, by simp; omega, k⟩
/-! ### pushed -/
def sp_p_pushed : DSpec := fun ds M K _ => ∃ h m : List Tx, ds = [.ls (h.map .str), .ls (m.map .str)] ∧ M = [] ∧ wt h + wt m ≤ 10000 ∧ K (.cel 0) [.ls ((push h m).map .str)]
def lb0_p_pushed : DS :=
  (dIfS (qTru (dOp (rEqD' false) (dVar 3) (dC (.str [46, 46]))))
    (dSet 2 (dSlC (dVar 2) dNo (dPart (rNegD (dC (.int 1))))))
    (dIfS (qTru (dOp (rEqD' true) (dVar 3) (dC (.str [46]))))
    (dSet 2 (dOp rAddDC (dVar 2) (dLst (aCons (dVar 3) aNil))))
    dNext))
def rd_p_pushed : DS :=
  (dSeq (dSet 2 (dCall rListOfC (aCons (dVar 0) aNil)))
    (dSeq (dFor (iLst (dVar 1)) (Tgt.nm 3) lb0_p_pushed)
    (dRet (dVar 2))))
theorem loop_p_pushed {chk : MM → Prop} (hc : ∀ M, chk M) {E : DEnds} {all : List D} {h : D} {res : List Tx} (m : List Tx) (acc : List Tx) (k : Nat) (M : MM) (o : Option D) (hM : M[k]? = some (.ls (acc.map .str))) (hw : wt acc + wt m ≤ 10000) (hr : push acc m = res)
    (q : ∀ k' M' o', M'[k']? = some (.ls (res.map .str)) → E.nx [some h, some (.ls all), some (.cel k'), o'] M') :
    forD chk (Tgt.nm 3) lb0_p_pushed E (m.map .str) [some h, some (.ls all), some (.cel k), o] M := by
  refine for_ind (P := fun l Γ M => ∃ m acc k o, l = m.map D.str ∧ Γ = [some h, some (.ls all), some (.cel k), o] ∧ M[k]? = some (.ls (acc.map .str)) ∧ wt acc + wt m ≤ 10000 ∧ push acc m = res) ?_ ?_ _ _ _ ⟨m, acc, k, o, rfl, rfl, hM, hw, hr⟩
  · rintro Γ M ⟨m, acc, k, o, e, rfl, hM, hw, hr⟩
    cases m with
    | nil => cases hr; exact ⟨hc _, q k M o hM⟩
    | cons => cases e
  · rintro d r Γ M N hN ⟨m, acc, k, o, e, rfl, hM, hw, hr⟩
    cases m with
    | nil => cases e
    | cons s m =>
      cases e
      have e : wt (s :: m) = wt [s] + wt m := wt_app [s] m
      have h2 := wt_pstep acc s
      have hr : push (pstep acc s) m = res := hr
      have go : ∀ k M, M[k]? = some (.ls ((pstep acc s).map .str)) → N [some h, some (.ls all), some (.cel k), some (.str s)] M := fun k M hM => hN _ _ ⟨m, _, k, _, rfl, rfl, hM, by omega, hr⟩
      refine ⟨hc _, ?_⟩
      simp only [lb0_p_pushed, dSeq, dNext, dRet, dRetN, dDrop, dSet, dIfS, dBrk, dCnt, dPar, dAug, dSetIx, dFor, dUnp, dVar, dC, dOp, dSl, dSlC, dPart, dNo, dTup, dLst, dLstC, dIf, dNot, dAnd, dOr, rNegD, dCall, dM, dM0, dApp, dFrz, dFz, dLc, dFn, dFn0, dFnK, aCons, aNil,
    qTru, qNot, qAnd, qOr, qYes, iLst, iTp, iStr', iR1, iR2, Tgt.d, setAll, wipeG, rAddD, rSubD, rMulD, rModD, rFdivD, rPowD, rOrdD, rIAddD, rIsN', rIxD, rSlD, rLen, rAbs, rMax2, rMin2, rInt1, rOrd, rListOf, rListOfC, rTupleOf, rIsiD,
    mSplit, mPart, mJoin, mStarts, mEnds, startG, endG, endN, endW, eqS_iff, eqI_iff, eqB_iff, eqL_iff, lsOwn_ls, lsOf_ls, lsOf_rl, sqOf_ls, sqOf_rl, sqOf_tp, tpOf_tp, truD_ls, truD_rl, truD_tp, truD_bl, truD_int, truD_non, cPure, cNew, cBagA, sPure, isNon, flatD, tyD,
    cut_from1, cut_init, atI_0, atI_1, atI_2, atI_last, List.map_cons, List.map_nil, List.cons_append, List.nil_append, List.replicate, List.getElem?_cons_zero, List.getElem?_cons_succ, List.getElem?_nil, List.set_cons_zero, List.set_cons_succ, Option.some.injEq, exists_eq_left', exists_eq_left, Option.some_or, Option.none_or, Option.or_some, List.length_cons, List.length_nil, List.length_map, Nat.sub_zero, Nat.reduceSub, Nat.reduceAdd, Nat.reduceLeDiff, List.isEmpty_cons, List.isEmpty_nil, true_and, and_true, if_true, if_false, reduceIte, Bool.not_true, Bool.not_false, Bool.false_eq_true, reduceCtorEq, List.forall_mem_cons, List.forall_mem_nil, implies_true, List.mem_singleton, forall_eq, decide_eq_true_eq, Bool.not_eq_true', decide_eq_false_iff_not, okM0_iff, List.take_zero, gr_str_iff, gr_int_iff, gr_bl_iff, gr_non_iff, gr_lss_iff, gr_ls0_iff, sqOf_1, lsOf_1, lsOwn_1, ixN_30, ixN_31, ixN_32, setIx_iff, setIx_iff', D.cel.injEq, not_true_eq_false, not_false_eq_true, lsOwn_cel hM, lsOf_cel hM]
      unfold pstep at go
      by_cases c1 : s = [46, 46]
      · rw [if_pos c1] at go ⊢
        exact go _ _ (by rw [get_snoc, List.map_dropLast])
      · rw [if_neg c1] at go ⊢
        by_cases c2 : s = [46]
        · rw [if_pos c2] at go
          rw [if_neg (fun z => z c2)]
          exact go _ _ hM
        · rw [if_neg c2] at go
          rw [if_pos c2]
          have := len_le_wt acc
          exact addC_iff (lsOwn_cel hM) rfl ⟨by simp; omega, go _ _ (by rw [get_snoc, List.map_append]; rfl)⟩
theorem sem_p_pushed (ds : List D) (M : MM) (K0 : Kd) (R0 : Kx) (h : sp_p_pushed ds M K0 R0) : rd_p_pushed (endN M.length K0 R0) (startG 4 ds) M := by
  obtain ⟨h, m, rfl, rfl, hw, k⟩ := h
  simp only [rd_p_pushed, dSeq, dNext, dRet, dRetN, dDrop, dSet, dIfS, dBrk, dCnt, dPar, dAug, dSetIx, dFor, dUnp, dVar, dC, dOp, dSl, dSlC, dPart, dNo, dTup, dLst, dLstC, dIf, dNot, dAnd, dOr, rNegD, dCall, dM, dM0, dApp, dFrz, dFz, dLc, dFn, dFn0, dFnK, aCons, aNil,
    qTru, qNot, qAnd, qOr, qYes, iLst, iTp, iStr', iR1, iR2, Tgt.d, setAll, wipeG, rAddD, rSubD, rMulD, rModD, rFdivD, rPowD, rOrdD, rIAddD, rIsN', rIxD, rSlD, rLen, rAbs, rMax2, rMin2, rInt1, rOrd, rListOf, rListOfC, rTupleOf, rIsiD,
    mSplit, mPart, mJoin, mStarts, mEnds, startG, endG, endN, endW, eqS_iff, eqI_iff, eqB_iff, eqL_iff, lsOwn_ls, lsOf_ls, lsOf_rl, sqOf_ls, sqOf_rl, sqOf_tp, tpOf_tp, truD_ls, truD_rl, truD_tp, truD_bl, truD_int, truD_non, cPure, cNew, cBagA, sPure, isNon, flatD, tyD,
    cut_from1, cut_init, atI_0, atI_1, atI_2, atI_last, List.map_cons, List.map_nil, List.cons_append, List.nil_append, List.replicate, List.getElem?_cons_zero, List.getElem?_cons_succ, List.getElem?_nil, List.set_cons_zero, List.set_cons_succ, Option.some.injEq, exists_eq_left', exists_eq_left, Option.some_or, Option.none_or, Option.or_some, List.length_cons, List.length_nil, List.length_map, Nat.sub_zero, Nat.reduceSub, Nat.reduceAdd, Nat.reduceLeDiff, List.isEmpty_cons, List.isEmpty_nil, true_and, and_true, if_true, if_false, reduceIte, Bool.not_true, Bool.not_false, Bool.false_eq_true, reduceCtorEq, List.forall_mem_cons, List.forall_mem_nil, implies_true, List.mem_singleton, forall_eq, decide_eq_true_eq, Bool.not_eq_true', decide_eq_false_iff_not, okM0_iff, List.take_zero, gr_str_iff, gr_int_iff, gr_bl_iff, gr_non_iff, gr_lss_iff, gr_ls0_iff, sqOf_1, lsOf_1, lsOwn_1, ixN_30, ixN_31, ixN_32, setIx_iff, setIx_iff', D.cel.injEq, not_true_eq_false, not_false_eq_true]
  refine loop_p_pushed (fun _ => trivial) m h 0 [.ls (h.map .str)] none rfl hw rfl ?_
  intro k' M' o' hM
  simp only [dSeq, dNext, dRet, dRetN, dDrop, dSet, dIfS, dBrk, dCnt, dPar, dAug, dSetIx, dFor, dUnp, dVar, dC, dOp, dSl, dSlC, dPart, dNo, dTup, dLst, dLstC, dIf, dNot, dAnd, dOr, rNegD, dCall, dM, dM0, dApp, dFrz, dFz, dLc, dFn, dFn0, dFnK, aCons, aNil,
    qTru, qNot, qAnd, qOr, qYes, iLst, iTp, iStr', iR1, iR2, Tgt.d, setAll, wipeG, rAddD, rSubD, rMulD, rModD, rFdivD, rPowD, rOrdD, rIAddD, rIsN', rIxD, rSlD, rLen, rAbs, rMax2, rMin2, rInt1, rOrd, rListOf, rListOfC, rTupleOf, rIsiD,
    mSplit, mPart, mJoin, mStarts, mEnds, startG, endG, endN, endW, eqS_iff, eqI_iff, eqB_iff, eqL_iff, lsOwn_ls, lsOf_ls, lsOf_rl, sqOf_ls, sqOf_rl, sqOf_tp, tpOf_tp, truD_ls, truD_rl, truD_tp, truD_bl, truD_int, truD_non, cPure, cNew, cBagA, sPure, isNon, flatD, tyD,
    cut_from1, cut_init, atI_0, atI_1, atI_2, atI_last, List.map_cons, List.map_nil, List.cons_append, List.nil_append, List.replicate, List.getElem?_cons_zero, List.getElem?_cons_succ, List.getElem?_nil, List.set_cons_zero, List.set_cons_succ, Option.some.injEq, exists_eq_left', exists_eq_left, Option.some_or, Option.none_or, Option.or_some, List.length_cons, List.length_nil, List.length_map, Nat.sub_zero, Nat.reduceSub, Nat.reduceAdd, Nat.reduceLeDiff, List.isEmpty_cons, List.isEmpty_nil, true_and, and_true, if_true, if_false, reduceIte, Bool.not_true, Bool.not_false, Bool.false_eq_true, reduceCtorEq, List.forall_mem_cons, List.forall_mem_nil, implies_true, List.mem_singleton, forall_eq, decide_eq_true_eq, Bool.not_eq_true', decide_eq_false_iff_not, okM0_iff, List.take_zero, gr_str_iff, gr_int_iff, gr_bl_iff, gr_non_iff, gr_lss_iff, gr_ls0_iff, sqOf_1, lsOf_1, lsOwn_1, ixN_30, ixN_31, ixN_32, setIx_iff, setIx_iff', D.cel.injEq, not_true_eq_false, not_false_eq_true]
  refine ⟨k', _, rfl, Nat.zero_le _, hM, gr_strs _, ?_⟩
  simpa using k
/-! ### stack_of, stack -/
def sp_p_stack_of : DSpec := fun ds M K _ => ∃ p : Tx, ds = [.str p] ∧ M = [] ∧ p.length ≤ 1000 ∧ K (.cel 0) [.ls ((stackOf p).map .str)]
def rd_p_stack_of : DS :=
  (dSeq (dSet 1 (dFn (cPure sp_p_segments) [] (aCons (dVar 0) aNil)))
    (dSeq (dSet 2 (dFn (cNew sp_p_pushed) [] (aCons (dLst aNil) (aCons (dVar 1) aNil))))
    (dRet (dIf (qTru (dOp (rInD false) (dOp rIxD (dVar 1) (rNegD (dC (.int 1)))) (dTup (aCons (dC (.str [46])) (aCons (dC (.str [46, 46])) aNil))))) (dOp rAddDC (dVar 2) (dLst (aCons (dC (.str [])) aNil))) (dVar 2)))))
theorem getLast_segs (p : Tx) : ((segs p).map D.str).getLast? = some (.str (lastS p)) := by
  rw [List.getLast?_map, List.getLast?_eq_some_getLast (show segs p ≠ [] from spC_ne 47 _)]
  rfl
theorem wt_segs (p : Tx) : wt (segs p) ≤ p.length + 1 := by
  have h2 : wt (segs p) = (p.drop 1).length + 1 := wt_spC 47 _
  have h3 : (p.drop 1).length ≤ p.length := by simp
  omega
theorem sem_p_stack_of (ds : List D) (M : MM) (K0 : Kd) (R0 : Kx) (h : sp_p_stack_of ds M K0 R0) : rd_p_stack_of (endN M.length K0 R0) (startG 3 ds) M := by
  obtain ⟨p, rfl, rfl, hp, k⟩ := h
  have hw := wt_segs p
  simp only [rd_p_stack_of, dSeq, dNext, dRet, dRetN, dDrop, dSet, dIfS, dBrk, dCnt, dPar, dAug, dSetIx, dFor, dUnp, dVar, dC, dOp, dSl, dSlC, dPart, dNo, dTup, dLst, dLstC, dIf, dNot, dAnd, dOr, rNegD, dCall, dM, dM0, dApp, dFrz, dFz, dLc, dFn, dFn0, dFnK, aCons, aNil,
    qTru, qNot, qAnd, qOr, qYes, iLst, iTp, iStr', iR1, iR2, Tgt.d, setAll, wipeG, rAddD, rSubD, rMulD, rModD, rFdivD, rPowD, rOrdD, rIAddD, rIsN', rIxD, rSlD, rLen, rAbs, rMax2, rMin2, rInt1, rOrd, rListOf, rListOfC, rTupleOf, rIsiD,
    mSplit, mPart, mJoin, mStarts, mEnds, startG, endG, endN, endW, eqS_iff, eqI_iff, eqB_iff, eqL_iff, lsOwn_ls, lsOf_ls, lsOf_rl, sqOf_ls, sqOf_rl, sqOf_tp, tpOf_tp, truD_ls, truD_rl, truD_tp, truD_bl, truD_int, truD_non, cPure, cNew, cBagA, sPure, isNon, flatD, tyD,
    cut_from1, cut_init, atI_0, atI_1, atI_2, atI_last, List.map_cons, List.map_nil, List.cons_append, List.nil_append, List.replicate, List.getElem?_cons_zero, List.getElem?_cons_succ, List.getElem?_nil, List.set_cons_zero, List.set_cons_succ, Option.some.injEq, exists_eq_left', exists_eq_left, Option.some_or, Option.none_or, Option.or_some, List.length_cons, List.length_nil, List.length_map, Nat.sub_zero, Nat.reduceSub, Nat.reduceAdd, Nat.reduceLeDiff, List.isEmpty_cons, List.isEmpty_nil, true_and, and_true, if_true, if_false, reduceIte, Bool.not_true, Bool.not_false, Bool.false_eq_true, reduceCtorEq, List.forall_mem_cons, List.forall_mem_nil, implies_true, List.mem_singleton, forall_eq, decide_eq_true_eq, Bool.not_eq_true', decide_eq_false_iff_not, okM0_iff, List.take_zero, gr_str_iff, gr_int_iff, gr_bl_iff, gr_non_iff, gr_lss_iff, gr_ls0_iff, sqOf_1, lsOf_1, lsOwn_1, ixN_30, ixN_31, ixN_32, setIx_iff, setIx_iff', D.cel.injEq, not_true_eq_false, not_false_eq_true]
  refine ⟨p, rfl, rfl, hp, rfl, gr_ls_strs _, [], segs p, rfl, rfl, ?_, _, rfl, gr_strs _, rfl, ?_⟩
  · have h4 : wt ([] : List Tx) = 0 := rfl
    omega
  · simp only [dSeq, dNext, dRet, dRetN, dDrop, dSet, dIfS, dBrk, dCnt, dPar, dAug, dSetIx, dFor, dUnp, dVar, dC, dOp, dSl, dSlC, dPart, dNo, dTup, dLst, dLstC, dIf, dNot, dAnd, dOr, rNegD, dCall, dM, dM0, dApp, dFrz, dFz, dLc, dFn, dFn0, dFnK, aCons, aNil,
    qTru, qNot, qAnd, qOr, qYes, iLst, iTp, iStr', iR1, iR2, Tgt.d, setAll, wipeG, rAddD, rSubD, rMulD, rModD, rFdivD, rPowD, rOrdD, rIAddD, rIsN', rIxD, rSlD, rLen, rAbs, rMax2, rMin2, rInt1, rOrd, rListOf, rListOfC, rTupleOf, rIsiD,
    mSplit, mPart, mJoin, mStarts, mEnds, startG, endG, endN, endW, eqS_iff, eqI_iff, eqB_iff, eqL_iff, lsOwn_ls, lsOf_ls, lsOf_rl, sqOf_ls, sqOf_rl, sqOf_tp, tpOf_tp, truD_ls, truD_rl, truD_tp, truD_bl, truD_int, truD_non, cPure, cNew, cBagA, sPure, isNon, flatD, tyD,
    cut_from1, cut_init, atI_0, atI_1, atI_2, atI_last, List.map_cons, List.map_nil, List.cons_append, List.nil_append, List.replicate, List.getElem?_cons_zero, List.getElem?_cons_succ, List.getElem?_nil, List.set_cons_zero, List.set_cons_succ, Option.some.injEq, exists_eq_left', exists_eq_left, Option.some_or, Option.none_or, Option.or_some, List.length_cons, List.length_nil, List.length_map, Nat.sub_zero, Nat.reduceSub, Nat.reduceAdd, Nat.reduceLeDiff, List.isEmpty_cons, List.isEmpty_nil, true_and, and_true, if_true, if_false, reduceIte, Bool.not_true, Bool.not_false, Bool.false_eq_true, reduceCtorEq, List.forall_mem_cons, List.forall_mem_nil, implies_true, List.mem_singleton, forall_eq, decide_eq_true_eq, Bool.not_eq_true', decide_eq_false_iff_not, okM0_iff, List.take_zero, gr_str_iff, gr_int_iff, gr_bl_iff, gr_non_iff, gr_lss_iff, gr_ls0_iff, sqOf_1, lsOf_1, lsOwn_1, ixN_30, ixN_31, ixN_32, setIx_iff, setIx_iff', D.cel.injEq, not_true_eq_false, not_false_eq_true]
    refine ⟨_, getLast_segs p, ?_⟩
    refine inL_strs (l := [[46], [46, 46]]) rfl ?_ (by simp)
    have h1 : (decide (lastS p ∈ [[46], [46, 46]])) = dotty (lastS p) := by
      unfold dotty
      rw [Bool.eq_iff_iff]
      simp
    simp only [dSeq, dNext, dRet, dRetN, dDrop, dSet, dIfS, dBrk, dCnt, dPar, dAug, dSetIx, dFor, dUnp, dVar, dC, dOp, dSl, dSlC, dPart, dNo, dTup, dLst, dLstC, dIf, dNot, dAnd, dOr, rNegD, dCall, dM, dM0, dApp, dFrz, dFz, dLc, dFn, dFn0, dFnK, aCons, aNil,
    qTru, qNot, qAnd, qOr, qYes, iLst, iTp, iStr', iR1, iR2, Tgt.d, setAll, wipeG, rAddD, rSubD, rMulD, rModD, rFdivD, rPowD, rOrdD, rIAddD, rIsN', rIxD, rSlD, rLen, rAbs, rMax2, rMin2, rInt1, rOrd, rListOf, rListOfC, rTupleOf, rIsiD,
    mSplit, mPart, mJoin, mStarts, mEnds, startG, endG, endN, endW, eqS_iff, eqI_iff, eqB_iff, eqL_iff, lsOwn_ls, lsOf_ls, lsOf_rl, sqOf_ls, sqOf_rl, sqOf_tp, tpOf_tp, truD_ls, truD_rl, truD_tp, truD_bl, truD_int, truD_non, cPure, cNew, cBagA, sPure, isNon, flatD, tyD,
    cut_from1, cut_init, atI_0, atI_1, atI_2, atI_last, List.map_cons, List.map_nil, List.cons_append, List.nil_append, List.replicate, List.getElem?_cons_zero, List.getElem?_cons_succ, List.getElem?_nil, List.set_cons_zero, List.set_cons_succ, Option.some.injEq, exists_eq_left', exists_eq_left, Option.some_or, Option.none_or, Option.or_some, List.length_cons, List.length_nil, List.length_map, Nat.sub_zero, Nat.reduceSub, Nat.reduceAdd, Nat.reduceLeDiff, List.isEmpty_cons, List.isEmpty_nil, true_and, and_true, if_true, if_false, reduceIte, Bool.not_true, Bool.not_false, Bool.false_eq_true, reduceCtorEq, List.forall_mem_cons, List.forall_mem_nil, implies_true, List.mem_singleton, forall_eq, decide_eq_true_eq, Bool.not_eq_true', decide_eq_false_iff_not, okM0_iff, List.take_zero, gr_str_iff, gr_int_iff, gr_bl_iff, gr_non_iff, gr_lss_iff, gr_ls0_iff, sqOf_1, lsOf_1, lsOwn_1, ixN_30, ixN_31, ixN_32, setIx_iff, setIx_iff', D.cel.injEq, not_true_eq_false, not_false_eq_true, h1]
    unfold stackOf at k
    split
    · rename_i c
      rw [if_pos c] at k
      have h5 := wt_push (segs p) []
      have h6 := len_le_wt (push [] (segs p))
      have h4 : wt ([] : List Tx) = 0 := rfl
      refine addC_iff (a := (push [] (segs p)).map .str) (b := [.str []]) rfl rfl ⟨by simp; omega, _, _, rfl, Nat.zero_le _, get_snoc, ?_, ?_⟩
      · have := gr_strs (push [] (segs p) ++ [[]])
        rw [List.map_append] at this
        exact this
      · rw [List.map_append] at k
        exact k
    · rename_i c
      rw [if_neg c] at k
      exact ⟨_, _, rfl, Nat.zero_le _, rfl, gr_strs _, k⟩
def sp_p_stack : DSpec := sp_p_stack_of
def rd_p_stack : DS :=
  (dRet (dFn (cNew sp_p_stack_of) [] (aCons (dVar 0) aNil)))
theorem sem_p_stack (ds : List D) (M : MM) (K0 : Kd) (R0 : Kx) (h : sp_p_stack ds M K0 R0) : rd_p_stack (endN M.length K0 R0) (startG 1 ds) M := by
  obtain ⟨p, rfl, rfl, hp, k⟩ := h
  simp only [rd_p_stack, dSeq, dNext, dRet, dRetN, dDrop, dSet, dIfS, dBrk, dCnt, dPar, dAug, dSetIx, dFor, dUnp, dVar, dC, dOp, dSl, dSlC, dPart, dNo, dTup, dLst, dLstC, dIf, dNot, dAnd, dOr, rNegD, dCall, dM, dM0, dApp, dFrz, dFz, dLc, dFn, dFn0, dFnK, aCons, aNil,
    qTru, qNot, qAnd, qOr, qYes, iLst, iTp, iStr', iR1, iR2, Tgt.d, setAll, wipeG, rAddD, rSubD, rMulD, rModD, rFdivD, rPowD, rOrdD, rIAddD, rIsN', rIxD, rSlD, rLen, rAbs, rMax2, rMin2, rInt1, rOrd, rListOf, rListOfC, rTupleOf, rIsiD,
    mSplit, mPart, mJoin, mStarts, mEnds, startG, endG, endN, endW, eqS_iff, eqI_iff, eqB_iff, eqL_iff, lsOwn_ls, lsOf_ls, lsOf_rl, sqOf_ls, sqOf_rl, sqOf_tp, tpOf_tp, truD_ls, truD_rl, truD_tp, truD_bl, truD_int, truD_non, cPure, cNew, cBagA, sPure, isNon, flatD, tyD,
    cut_from1, cut_init, atI_0, atI_1, atI_2, atI_last, List.map_cons, List.map_nil, List.cons_append, List.nil_append, List.replicate, List.getElem?_cons_zero, List.getElem?_cons_succ, List.getElem?_nil, List.set_cons_zero, List.set_cons_succ, Option.some.injEq, exists_eq_left', exists_eq_left, Option.some_or, Option.none_or, Option.or_some, List.length_cons, List.length_nil, List.length_map, Nat.sub_zero, Nat.reduceSub, Nat.reduceAdd, Nat.reduceLeDiff, List.isEmpty_cons, List.isEmpty_nil, true_and, and_true, if_true, if_false, reduceIte, Bool.not_true, Bool.not_false, Bool.false_eq_true, reduceCtorEq, List.forall_mem_cons, List.forall_mem_nil, implies_true, List.mem_singleton, forall_eq, decide_eq_true_eq, Bool.not_eq_true', decide_eq_false_iff_not, okM0_iff, List.take_zero, gr_str_iff, gr_int_iff, gr_bl_iff, gr_non_iff, gr_lss_iff, gr_ls0_iff, sqOf_1, lsOf_1, lsOwn_1, ixN_30, ixN_31, ixN_32, setIx_iff, setIx_iff', D.cel.injEq, not_true_eq_false, not_false_eq_true]
  exact ⟨p, rfl, rfl, hp, _, rfl, gr_strs _, rfl, _, _, rfl, Nat.zero_le _, rfl, gr_strs _, k⟩
/-! ### written, cleaned_path, cleaned -/
def sp_p_written : DSpec := fun ds M K _ => ∃ (h : List Tx) (au : Bool), ds = [.ls (h.map .str), .bl au] ∧ M = [] ∧ wt h ≤ 10000 ∧ K (.str (written h au)) []
def rd_p_written : DS :=
  (dSeq (dSet 2 (dOp rAddD (dC (.str [47])) (dM mJoin (dC (.str [47])) (aCons (dVar 0) aNil))))
    (dRet (dIf (qOr (qTru (dVar 1)) (qNot (qTru (dM mStarts (dVar 2) (aCons (dC (.str [47, 47])) aNil))))) (dVar 2) (dOp rAddD (dC (.str [47, 46])) (dVar 2)))))
theorem sem_p_written (ds : List D) (M : MM) (K0 : Kd) (R0 : Kx) (h : sp_p_written ds M K0 R0) : rd_p_written (endG M.length K0 R0) (startG 3 ds) M := by
  obtain ⟨h, au, rfl, rfl, hw, k⟩ := h
  have hj := jn_wt h
  have hw2 : (h.map List.length).sum + h.length = wt h := rfl
  simp only [rd_p_written, dSeq, dNext, dRet, dRetN, dDrop, dSet, dIfS, dBrk, dCnt, dPar, dAug, dSetIx, dFor, dUnp, dVar, dC, dOp, dSl, dSlC, dPart, dNo, dTup, dLst, dLstC, dIf, dNot, dAnd, dOr, rNegD, dCall, dM, dM0, dApp, dFrz, dFz, dLc, dFn, dFn0, dFnK, aCons, aNil,
    qTru, qNot, qAnd, qOr, qYes, iLst, iTp, iStr', iR1, iR2, Tgt.d, setAll, wipeG, rAddD, rSubD, rMulD, rModD, rFdivD, rPowD, rOrdD, rIAddD, rIsN', rIxD, rSlD, rLen, rAbs, rMax2, rMin2, rInt1, rOrd, rListOf, rListOfC, rTupleOf, rIsiD,
    mSplit, mPart, mJoin, mStarts, mEnds, startG, endG, endN, endW, eqS_iff, eqI_iff, eqB_iff, eqL_iff, lsOwn_ls, lsOf_ls, lsOf_rl, sqOf_ls, sqOf_rl, sqOf_tp, tpOf_tp, truD_ls, truD_rl, truD_tp, truD_bl, truD_int, truD_non, cPure, cNew, cBagA, sPure, isNon, flatD, tyD,
    cut_from1, cut_init, atI_0, atI_1, atI_2, atI_last, List.map_cons, List.map_nil, List.cons_append, List.nil_append, List.replicate, List.getElem?_cons_zero, List.getElem?_cons_succ, List.getElem?_nil, List.set_cons_zero, List.set_cons_succ, Option.some.injEq, exists_eq_left', exists_eq_left, Option.some_or, Option.none_or, Option.or_some, List.length_cons, List.length_nil, List.length_map, Nat.sub_zero, Nat.reduceSub, Nat.reduceAdd, Nat.reduceLeDiff, List.isEmpty_cons, List.isEmpty_nil, true_and, and_true, if_true, if_false, reduceIte, Bool.not_true, Bool.not_false, Bool.false_eq_true, reduceCtorEq, List.forall_mem_cons, List.forall_mem_nil, implies_true, List.mem_singleton, forall_eq, decide_eq_true_eq, Bool.not_eq_true', decide_eq_false_iff_not, okM0_iff, List.take_zero, gr_str_iff, gr_int_iff, gr_bl_iff, gr_non_iff, gr_lss_iff, gr_ls0_iff, sqOf_1, lsOf_1, lsOwn_1, ixN_30, ixN_31, ixN_32, setIx_iff, setIx_iff', D.cel.injEq, not_true_eq_false, not_false_eq_true]
  refine ⟨h, rfl, ?_, by omega, ?_⟩
  · show (h.map List.length).sum + h.length * 1 ≤ 16777216
    omega
  unfold written at k
  cases au with
  | true => exact k
  | false =>
    simp only [dSeq, dNext, dRet, dRetN, dDrop, dSet, dIfS, dBrk, dCnt, dPar, dAug, dSetIx, dFor, dUnp, dVar, dC, dOp, dSl, dSlC, dPart, dNo, dTup, dLst, dLstC, dIf, dNot, dAnd, dOr, rNegD, dCall, dM, dM0, dApp, dFrz, dFz, dLc, dFn, dFn0, dFnK, aCons, aNil,
    qTru, qNot, qAnd, qOr, qYes, iLst, iTp, iStr', iR1, iR2, Tgt.d, setAll, wipeG, rAddD, rSubD, rMulD, rModD, rFdivD, rPowD, rOrdD, rIAddD, rIsN', rIxD, rSlD, rLen, rAbs, rMax2, rMin2, rInt1, rOrd, rListOf, rListOfC, rTupleOf, rIsiD,
    mSplit, mPart, mJoin, mStarts, mEnds, startG, endG, endN, endW, eqS_iff, eqI_iff, eqB_iff, eqL_iff, lsOwn_ls, lsOf_ls, lsOf_rl, sqOf_ls, sqOf_rl, sqOf_tp, tpOf_tp, truD_ls, truD_rl, truD_tp, truD_bl, truD_int, truD_non, cPure, cNew, cBagA, sPure, isNon, flatD, tyD,
    cut_from1, cut_init, atI_0, atI_1, atI_2, atI_last, List.map_cons, List.map_nil, List.cons_append, List.nil_append, List.replicate, List.getElem?_cons_zero, List.getElem?_cons_succ, List.getElem?_nil, List.set_cons_zero, List.set_cons_succ, Option.some.injEq, exists_eq_left', exists_eq_left, Option.some_or, Option.none_or, Option.or_some, List.length_cons, List.length_nil, List.length_map, Nat.sub_zero, Nat.reduceSub, Nat.reduceAdd, Nat.reduceLeDiff, List.isEmpty_cons, List.isEmpty_nil, true_and, and_true, if_true, if_false, reduceIte, Bool.not_true, Bool.not_false, Bool.false_eq_true, reduceCtorEq, List.forall_mem_cons, List.forall_mem_nil, implies_true, List.mem_singleton, forall_eq, decide_eq_true_eq, Bool.not_eq_true', decide_eq_false_iff_not, okM0_iff, List.take_zero, gr_str_iff, gr_int_iff, gr_bl_iff, gr_non_iff, gr_lss_iff, gr_ls0_iff, sqOf_1, lsOf_1, lsOwn_1, ixN_30, ixN_31, ixN_32, setIx_iff, setIx_iff', D.cel.injEq, not_true_eq_false, not_false_eq_true]
    cases c : [47, 47].isPrefixOf (47 :: jn [47] h) with
    | true =>
      rw [c] at k
      exact ⟨by omega, k⟩
    | false =>
      rw [c] at k
      exact k
def sp_p_cleaned_path : DSpec := fun ds M K _ => ∃ (p : Tx) (au : Bool), ds = [.str p, .bl au] ∧ M = [] ∧ p.length ≤ 1000 ∧ K (.str (cleanedP p au)) []
def rd_p_cleaned_path : DS :=
  (dRet (dIf (qTru (dM mStarts (dVar 0) (aCons (dC (.str [47])) aNil))) (dFn (cPure sp_p_written) [] (aCons (dFn (cPure (sPure sp_p_stack_of)) [] (aCons (dVar 0) aNil)) (aCons (dVar 1) aNil))) (dVar 0)))
theorem sem_p_cleaned_path (ds : List D) (M : MM) (K0 : Kd) (R0 : Kx) (h : sp_p_cleaned_path ds M K0 R0) : rd_p_cleaned_path (endG M.length K0 R0) (startG 2 ds) M := by
  obtain ⟨p, au, rfl, rfl, hp, k⟩ := h
  have hw := wt_stackOf p
  simp only [rd_p_cleaned_path, dSeq, dNext, dRet, dRetN, dDrop, dSet, dIfS, dBrk, dCnt, dPar, dAug, dSetIx, dFor, dUnp, dVar, dC, dOp, dSl, dSlC, dPart, dNo, dTup, dLst, dLstC, dIf, dNot, dAnd, dOr, rNegD, dCall, dM, dM0, dApp, dFrz, dFz, dLc, dFn, dFn0, dFnK, aCons, aNil,
    qTru, qNot, qAnd, qOr, qYes, iLst, iTp, iStr', iR1, iR2, Tgt.d, setAll, wipeG, rAddD, rSubD, rMulD, rModD, rFdivD, rPowD, rOrdD, rIAddD, rIsN', rIxD, rSlD, rLen, rAbs, rMax2, rMin2, rInt1, rOrd, rListOf, rListOfC, rTupleOf, rIsiD,
    mSplit, mPart, mJoin, mStarts, mEnds, startG, endG, endN, endW, eqS_iff, eqI_iff, eqB_iff, eqL_iff, lsOwn_ls, lsOf_ls, lsOf_rl, sqOf_ls, sqOf_rl, sqOf_tp, tpOf_tp, truD_ls, truD_rl, truD_tp, truD_bl, truD_int, truD_non, cPure, cNew, cBagA, sPure, isNon, flatD, tyD,
    cut_from1, cut_init, atI_0, atI_1, atI_2, atI_last, List.map_cons, List.map_nil, List.cons_append, List.nil_append, List.replicate, List.getElem?_cons_zero, List.getElem?_cons_succ, List.getElem?_nil, List.set_cons_zero, List.set_cons_succ, Option.some.injEq, exists_eq_left', exists_eq_left, Option.some_or, Option.none_or, Option.or_some, List.length_cons, List.length_nil, List.length_map, Nat.sub_zero, Nat.reduceSub, Nat.reduceAdd, Nat.reduceLeDiff, List.isEmpty_cons, List.isEmpty_nil, true_and, and_true, if_true, if_false, reduceIte, Bool.not_true, Bool.not_false, Bool.false_eq_true, reduceCtorEq, List.forall_mem_cons, List.forall_mem_nil, implies_true, List.mem_singleton, forall_eq, decide_eq_true_eq, Bool.not_eq_true', decide_eq_false_iff_not, okM0_iff, List.take_zero, gr_str_iff, gr_int_iff, gr_bl_iff, gr_non_iff, gr_lss_iff, gr_ls0_iff, sqOf_1, lsOf_1, lsOwn_1, ixN_30, ixN_31, ixN_32, setIx_iff, setIx_iff', D.cel.injEq, not_true_eq_false, not_false_eq_true]
  unfold cleanedP at k
  cases c : [47].isPrefixOf p with
  | true =>
    rw [c] at k
    refine ⟨p, rfl, rfl, hp, _, rfl, rfl, gr_strs _, gr_ls_strs _, stackOf p, au, rfl, rfl, by omega, rfl, trivial, k⟩
  | false =>
    rw [c] at k
    exact k
def sp_p_cleaned : DSpec := sp_p_cleaned_path
def rd_p_cleaned : DS :=
  (dRet (dFn (cPure sp_p_cleaned_path) [] (aCons (dVar 0) (aCons (dVar 1) aNil))))
theorem sem_p_cleaned (ds : List D) (M : MM) (K0 : Kd) (R0 : Kx) (h : sp_p_cleaned ds M K0 R0) : rd_p_cleaned (endG M.length K0 R0) (startG 2 ds) M := by
  obtain ⟨p, au, rfl, rfl, hp, k⟩ := h
  simp only [rd_p_cleaned, dSeq, dNext, dRet, dRetN, dDrop, dSet, dIfS, dBrk, dCnt, dPar, dAug, dSetIx, dFor, dUnp, dVar, dC, dOp, dSl, dSlC, dPart, dNo, dTup, dLst, dLstC, dIf, dNot, dAnd, dOr, rNegD, dCall, dM, dM0, dApp, dFrz, dFz, dLc, dFn, dFn0, dFnK, aCons, aNil,
    qTru, qNot, qAnd, qOr, qYes, iLst, iTp, iStr', iR1, iR2, Tgt.d, setAll, wipeG, rAddD, rSubD, rMulD, rModD, rFdivD, rPowD, rOrdD, rIAddD, rIsN', rIxD, rSlD, rLen, rAbs, rMax2, rMin2, rInt1, rOrd, rListOf, rListOfC, rTupleOf, rIsiD,
    mSplit, mPart, mJoin, mStarts, mEnds, startG, endG, endN, endW, eqS_iff, eqI_iff, eqB_iff, eqL_iff, lsOwn_ls, lsOf_ls, lsOf_rl, sqOf_ls, sqOf_rl, sqOf_tp, tpOf_tp, truD_ls, truD_rl, truD_tp, truD_bl, truD_int, truD_non, cPure, cNew, cBagA, sPure, isNon, flatD, tyD,
    cut_from1, cut_init, atI_0, atI_1, atI_2, atI_last, List.map_cons, List.map_nil, List.cons_append, List.nil_append, List.replicate, List.getElem?_cons_zero, List.getElem?_cons_succ, List.getElem?_nil, List.set_cons_zero, List.set_cons_succ, Option.some.injEq, exists_eq_left', exists_eq_left, Option.some_or, Option.none_or, Option.or_some, List.length_cons, List.length_nil, List.length_map, Nat.sub_zero, Nat.reduceSub, Nat.reduceAdd, Nat.reduceLeDiff, List.isEmpty_cons, List.isEmpty_nil, true_and, and_true, if_true, if_false, reduceIte, Bool.not_true, Bool.not_false, Bool.false_eq_true, reduceCtorEq, List.forall_mem_cons, List.forall_mem_nil, implies_true, List.mem_singleton, forall_eq, decide_eq_true_eq, Bool.not_eq_true', decide_eq_false_iff_not, okM0_iff, List.take_zero, gr_str_iff, gr_int_iff, gr_bl_iff, gr_non_iff, gr_lss_iff, gr_ls0_iff, sqOf_1, lsOf_1, lsOwn_1, ixN_30, ixN_31, ixN_32, setIx_iff, setIx_iff', D.cel.injEq, not_true_eq_false, not_false_eq_true]
  exact ⟨p, au, rfl, rfl, hp, rfl, trivial, k⟩

end L3

namespace L3
open PySem PySem.Spec PyProof.Rows L2 Evl
open Classical

/-! ### the law's own: the bag -/
def BagOk (n : Nat) (l : List D) : Prop := ∃ g s c : Int, l = [.int g, .int s, .int c] ∧ 0 ≤ g ∧ 0 ≤ s ∧ s ≤ 2147483587 ∧ 0 ≤ c ∧ c ≤ n
theorem BagOk.gr {n : Nat} {l : List D} (h : BagOk n l) : ∀ d ∈ l, Gr d := by
  obtain ⟨g, s, c, rfl, _⟩ := h
  exact gr_ints [g, s, c]
theorem BagOk.mono {n m : Nat} {l : List D} (h : BagOk n l) (e : n ≤ m) : BagOk m l := by
  obtain ⟨g, s, c, rfl, h1, h2, h3, h4, h5⟩ := h
  exact ⟨g, s, c, rfl, h1, h2, h3, h4, by omega⟩
def sp_law_bag : DSpec := fun ds M K _ => ∃ (ns : List Int) (at' : Nat), ds = [.rl (ns.map .int), .int at'] ∧ M = [] ∧ at' ≤ 1000 ∧ ∀ l, BagOk 0 l → K (.cel 0) [.ls l]
def rd_law_bag : DS :=
  (dSeq (dSet 2 (dC (.int 0)))
    (dSeq (dIfS (qTru (dOp rLtD (dVar 1) (dCall rLen (aCons (dVar 0) aNil))))
    (dSet 2 (dOp rIxD (dVar 0) (dVar 1)))
    dNext)
    (dSeq (dSet 3 (dOp rMulD (dCall rAbs (aCons (dVar 2) aNil)) (dCall rInt1 (aCons (dOp rGeD (dCall rAbs (aCons (dVar 2) aNil)) (dOp rPowD (dC (.int 10)) (dC (.int 18)))) aNil))))
    (dRet (dLstC (aCons (dVar 3) (aCons (dOp rAddD (dOp rModD (dOp rAddD (dOp rAddD (dOp rModD (dVar 2) (dOp rAddD (dOp rPowD (dC (.int 10)) (dC (.int 18))) (dC (.int 7)))) (dOp rMulD (dC (.int 8117)) (dVar 1))) (dC (.int 307))) (dC (.int 2147483587))) (dC (.int 1))) (aCons (dC (.int 0)) aNil))))))))
theorem sem_law_bag (ds : List D) (M : MM) (K0 : Kd) (R0 : Kx) (h : sp_law_bag ds M K0 R0) : rd_law_bag (endN M.length K0 R0) (startG 4 ds) M := by
  obtain ⟨ns, at', rfl, rfl, ha, k⟩ := h
  simp only [rd_law_bag, dSeq, dNext, dRet, dRetN, dDrop, dSet, dIfS, dBrk, dCnt, dPar, dAug, dSetIx, dFor, dUnp, dVar, dC, dOp, dSl, dSlC, dPart, dNo, dTup, dLst, dLstC, dIf, dNot, dAnd, dOr, rNegD, dCall, dM, dM0, dApp, dFrz, dFz, dLc, dFn, dFn0, dFnK, aCons, aNil,
    qTru, qNot, qAnd, qOr, qYes, iLst, iTp, iStr', iR1, iR2, Tgt.d, setAll, wipeG, rAddD, rSubD, rMulD, rModD, rFdivD, rPowD, rOrdD, rIAddD, rIsN', rIxD, rSlD, rLen, rAbs, rMax2, rMin2, rInt1, rOrd, rListOf, rListOfC, rTupleOf, rIsiD,
    mSplit, mPart, mJoin, mStarts, mEnds, startG, endG, endN, endW, eqS_iff, eqI_iff, eqB_iff, eqL_iff, lsOwn_ls, lsOf_ls, lsOf_rl, sqOf_ls, sqOf_rl, sqOf_tp, tpOf_tp, truD_ls, truD_rl, truD_tp, truD_bl, truD_int, truD_non, cPure, cNew, cBagA, sPure, isNon, flatD, tyD,
    cut_from1, cut_init, atI_0, atI_1, atI_2, atI_last, List.map_cons, List.map_nil, List.cons_append, List.nil_append, List.replicate, List.getElem?_cons_zero, List.getElem?_cons_succ, List.getElem?_nil, List.set_cons_zero, List.set_cons_succ, Option.some.injEq, exists_eq_left', exists_eq_left, Option.some_or, Option.none_or, Option.or_some, List.length_cons, List.length_nil, List.length_map, Nat.sub_zero, Nat.reduceSub, Nat.reduceAdd, Nat.reduceLeDiff, List.isEmpty_cons, List.isEmpty_nil, true_and, and_true, if_true, if_false, reduceIte, Bool.not_true, Bool.not_false, Bool.false_eq_true, reduceCtorEq, List.forall_mem_cons, List.forall_mem_nil, implies_true, List.mem_singleton, forall_eq, decide_eq_true_eq, Bool.not_eq_true', decide_eq_false_iff_not, okM0_iff, List.take_zero, gr_str_iff, gr_int_iff, gr_bl_iff, gr_non_iff, gr_lss_iff, gr_ls0_iff, sqOf_1, lsOf_1, lsOwn_1, ixN_30, ixN_31, ixN_32, setIx_iff, setIx_iff', D.cel.injEq, not_true_eq_false, not_false_eq_true]
  have fin : ∀ cell : Int, ∀ o : G, dSeq (dSet 3 (dOp rMulD (dCall rAbs (aCons (dVar 2) aNil)) (dCall rInt1 (aCons (dOp rGeD (dCall rAbs (aCons (dVar 2) aNil)) (dOp rPowD (dC (.int 10)) (dC (.int 18)))) aNil))))
    (dRet (dLstC (aCons (dVar 3) (aCons (dOp rAddD (dOp rModD (dOp rAddD (dOp rAddD (dOp rModD (dVar 2) (dOp rAddD (dOp rPowD (dC (.int 10)) (dC (.int 18))) (dC (.int 7)))) (dOp rMulD (dC (.int 8117)) (dVar 1))) (dC (.int 307))) (dC (.int 2147483587))) (dC (.int 1))) (aCons (dC (.int 0)) aNil))))) (endN 0 K0 R0) [some (.rl (ns.map .int)), some (.int at'), some (.int cell), none] [] := by
    intro cell _
    simp only [dSeq, dNext, dRet, dRetN, dDrop, dSet, dIfS, dBrk, dCnt, dPar, dAug, dSetIx, dFor, dUnp, dVar, dC, dOp, dSl, dSlC, dPart, dNo, dTup, dLst, dLstC, dIf, dNot, dAnd, dOr, rNegD, dCall, dM, dM0, dApp, dFrz, dFz, dLc, dFn, dFn0, dFnK, aCons, aNil,
    qTru, qNot, qAnd, qOr, qYes, iLst, iTp, iStr', iR1, iR2, Tgt.d, setAll, wipeG, rAddD, rSubD, rMulD, rModD, rFdivD, rPowD, rOrdD, rIAddD, rIsN', rIxD, rSlD, rLen, rAbs, rMax2, rMin2, rInt1, rOrd, rListOf, rListOfC, rTupleOf, rIsiD,
    mSplit, mPart, mJoin, mStarts, mEnds, startG, endG, endN, endW, eqS_iff, eqI_iff, eqB_iff, eqL_iff, lsOwn_ls, lsOf_ls, lsOf_rl, sqOf_ls, sqOf_rl, sqOf_tp, tpOf_tp, truD_ls, truD_rl, truD_tp, truD_bl, truD_int, truD_non, cPure, cNew, cBagA, sPure, isNon, flatD, tyD,
    cut_from1, cut_init, atI_0, atI_1, atI_2, atI_last, List.map_cons, List.map_nil, List.cons_append, List.nil_append, List.replicate, List.getElem?_cons_zero, List.getElem?_cons_succ, List.getElem?_nil, List.set_cons_zero, List.set_cons_succ, Option.some.injEq, exists_eq_left', exists_eq_left, Option.some_or, Option.none_or, Option.or_some, List.length_cons, List.length_nil, List.length_map, Nat.sub_zero, Nat.reduceSub, Nat.reduceAdd, Nat.reduceLeDiff, List.isEmpty_cons, List.isEmpty_nil, true_and, and_true, if_true, if_false, reduceIte, Bool.not_true, Bool.not_false, Bool.false_eq_true, reduceCtorEq, List.forall_mem_cons, List.forall_mem_nil, implies_true, List.mem_singleton, forall_eq, decide_eq_true_eq, Bool.not_eq_true', decide_eq_false_iff_not, okM0_iff, List.take_zero, gr_str_iff, gr_int_iff, gr_bl_iff, gr_non_iff, gr_lss_iff, gr_ls0_iff, sqOf_1, lsOf_1, lsOwn_1, ixN_30, ixN_31, ixN_32, setIx_iff, setIx_iff', D.cel.injEq, not_true_eq_false, not_false_eq_true]
    refine ⟨by decide, ?_, by decide, by decide, .inl (by decide), by decide, _, _, rfl, Nat.zero_le _, rfl, ?_, k _ ⟨_, _, 0, rfl, ?_, ?_, ?_, by decide, by decide⟩⟩
    · refine .inr (.inl ?_)
      rcases ind01 ((10 : Int) ^ Int.toNat 18 ≤ if cell < 0 then -cell else cell) with h | h <;> rw [h] <;> constructor <;> decide
    · exact gr_ints [_, _, 0]
    · refine Int.mul_nonneg (abs0 cell) ?_
      rcases ind01 ((10 : Int) ^ Int.toNat 18 ≤ if cell < 0 then -cell else cell) with h | h <;> rw [h] <;> decide
    · omega
    · omega
  have fin := fun c => fin c []
  simp only [dSeq, dNext, dRet, dRetN, dDrop, dSet, dIfS, dBrk, dCnt, dPar, dAug, dSetIx, dFor, dUnp, dVar, dC, dOp, dSl, dSlC, dPart, dNo, dTup, dLst, dLstC, dIf, dNot, dAnd, dOr, rNegD, dCall, dM, dM0, dApp, dFrz, dFz, dLc, dFn, dFn0, dFnK, aCons, aNil,
    qTru, qNot, qAnd, qOr, qYes, iLst, iTp, iStr', iR1, iR2, Tgt.d, setAll, wipeG, rAddD, rSubD, rMulD, rModD, rFdivD, rPowD, rOrdD, rIAddD, rIsN', rIxD, rSlD, rLen, rAbs, rMax2, rMin2, rInt1, rOrd, rListOf, rListOfC, rTupleOf, rIsiD,
    mSplit, mPart, mJoin, mStarts, mEnds, startG, endG, endN, endW, eqS_iff, eqI_iff, eqB_iff, eqL_iff, lsOwn_ls, lsOf_ls, lsOf_rl, sqOf_ls, sqOf_rl, sqOf_tp, tpOf_tp, truD_ls, truD_rl, truD_tp, truD_bl, truD_int, truD_non, cPure, cNew, cBagA, sPure, isNon, flatD, tyD,
    cut_from1, cut_init, atI_0, atI_1, atI_2, atI_last, List.map_cons, List.map_nil, List.cons_append, List.nil_append, List.replicate, List.getElem?_cons_zero, List.getElem?_cons_succ, List.getElem?_nil, List.set_cons_zero, List.set_cons_succ, Option.some.injEq, exists_eq_left', exists_eq_left, Option.some_or, Option.none_or, Option.or_some, List.length_cons, List.length_nil, List.length_map, Nat.sub_zero, Nat.reduceSub, Nat.reduceAdd, Nat.reduceLeDiff, List.isEmpty_cons, List.isEmpty_nil, true_and, and_true, if_true, if_false, reduceIte, Bool.not_true, Bool.not_false, Bool.false_eq_true, reduceCtorEq, List.forall_mem_cons, List.forall_mem_nil, implies_true, List.mem_singleton, forall_eq, decide_eq_true_eq, Bool.not_eq_true', decide_eq_false_iff_not, okM0_iff, List.take_zero, gr_str_iff, gr_int_iff, gr_bl_iff, gr_non_iff, gr_lss_iff, gr_ls0_iff, sqOf_1, lsOf_1, lsOwn_1, ixN_30, ixN_31, ixN_32, setIx_iff, setIx_iff', D.cel.injEq, not_true_eq_false, not_false_eq_true] at fin
  split
  · rename_i h
    have h : at' < ns.length := by omega
    refine ⟨.int ns[at'], ?_, fin _⟩
    rw [atI_nat, List.getElem?_map, List.getElem?_eq_getElem h]
    rfl
  · exact fin 0
end L3

namespace L3
open PySem PySem.Spec PyProof.Rows L2 Evl
open Classical

/-- one draw below m -/
def sp_law_take : DSpec := fun ds M K _ => ∃ (l : List D) (n : Nat) (m : Int), ds = [.cel 0, .int m] ∧ M = [.ls l] ∧ BagOk n l ∧ n ≤ 100000 ∧ 0 < m ∧ m < 1000000 ∧ ∀ x l', 0 ≤ x → x < m → BagOk (n + 1) l' → K (.int x) [.ls l']
def rd_law_take : DS :=
  (dSeq (dIfS (qTru (dOp rGtD (dOp rIxD (dVar 0) (dC (.int 0))) (dC (.int 0))))
    (dSeq (dSet 2 (dOp rModD (dOp rIxD (dVar 0) (dC (.int 0))) (dVar 1)))
    (dSeq (dSetIx (dVar 0) (dC (.int 0)) (dOp rFdivD (dOp rIxD (dVar 0) (dC (.int 0))) (dVar 1)))
    (dRet (dVar 2))))
    dNext)
    (dSeq (dSetIx (dVar 0) (dC (.int 2)) (dOp rAddD (dOp rIxD (dVar 0) (dC (.int 2))) (dC (.int 1))))
    (dSeq (dSetIx (dVar 0) (dC (.int 1)) (dOp rModD (dOp rAddD (dOp rAddD (dOp rMulD (dOp rIxD (dVar 0) (dC (.int 1))) (dC (.int 40692))) (dOp rMulD (dOp rMulD (dC (.int 6121)) (dOp rIxD (dVar 0) (dC (.int 2)))) (dOp rIxD (dVar 0) (dC (.int 2))))) (dC (.int 29))) (dC (.int 2147483399))))
    (dRet (dOp rModD (dOp rFdivD (dOp rModD (dOp rPowD (dOp rFdivD (dOp rIxD (dVar 0) (dC (.int 1))) (dC (.int 8))) (dC (.int 3))) (dC (.int 2147483549))) (dC (.int 16))) (dVar 1))))))
theorem sem_law_take (ds : List D) (M : MM) (K0 : Kd) (R0 : Kx) (h : sp_law_take ds M K0 R0) : rd_law_take (endG M.length K0 R0) (startG 3 ds) M := by
  obtain ⟨l, n, m, rfl, rfl, ⟨g, s, c, rfl, h1, h2, h3, h4, h5⟩, hn, hm, hm2, k⟩ := h
  have fin : ∀ x l', 0 ≤ x → x < m → BagOk (n + 1) l' → OkM 1 [.ls l'] ∧ K0 (.int x) (([.ls l'] : MM).take 1) := fun x l' a b d => ⟨fun m' h => by
    have e : m' = .ls l' := by simpa using h
    rw [e]
    exact d.gr, k x l' a b d⟩
  refine seq_g fun N hN => ?_
  simp only [dSeq, dNext, dRet, dRetN, dDrop, dSet, dIfS, dBrk, dCnt, dPar, dAug, dSetIx, dFor, dUnp, dVar, dC, dOp, dSl, dSlC, dPart, dNo, dTup, dLst, dLstC, dIf, dNot, dAnd, dOr, rNegD, dCall, dM, dM0, dApp, dFrz, dFz, dLc, dFn, dFn0, dFnK, aCons, aNil,
    qTru, qNot, qAnd, qOr, qYes, iLst, iTp, iStr', iR1, iR2, Tgt.d, setAll, wipeG, rAddD, rSubD, rMulD, rModD, rFdivD, rPowD, rOrdD, rIAddD, rIsN', rIxD, rSlD, rLen, rAbs, rMax2, rMin2, rInt1, rOrd, rListOf, rListOfC, rTupleOf, rIsiD,
    mSplit, mPart, mJoin, mStarts, mEnds, startG, endG, endN, endW, eqS_iff, eqI_iff, eqB_iff, eqL_iff, lsOwn_ls, lsOf_ls, lsOf_rl, sqOf_ls, sqOf_rl, sqOf_tp, tpOf_tp, truD_ls, truD_rl, truD_tp, truD_bl, truD_int, truD_non, cPure, cNew, cBagA, sPure, isNon, flatD, tyD,
    cut_from1, cut_init, atI_0, atI_1, atI_2, atI_last, List.map_cons, List.map_nil, List.cons_append, List.nil_append, List.replicate, List.getElem?_cons_zero, List.getElem?_cons_succ, List.getElem?_nil, List.set_cons_zero, List.set_cons_succ, Option.some.injEq, exists_eq_left', exists_eq_left, Option.some_or, Option.none_or, Option.or_some, List.length_cons, List.length_nil, List.length_map, Nat.sub_zero, Nat.reduceSub, Nat.reduceAdd, Nat.reduceLeDiff, List.isEmpty_cons, List.isEmpty_nil, true_and, and_true, if_true, if_false, reduceIte, Bool.not_true, Bool.not_false, Bool.false_eq_true, reduceCtorEq, List.forall_mem_cons, List.forall_mem_nil, implies_true, List.mem_singleton, forall_eq, decide_eq_true_eq, Bool.not_eq_true', decide_eq_false_iff_not, okM0_iff, List.take_zero, gr_str_iff, gr_int_iff, gr_bl_iff, gr_non_iff, gr_lss_iff, gr_ls0_iff, sqOf_1, lsOf_1, lsOwn_1, ixN_30, ixN_31, ixN_32, setIx_iff, setIx_iff', D.cel.injEq, not_true_eq_false, not_false_eq_true]
  by_cases c1 : 0 < g
  · rw [if_pos c1]
    refine ⟨hm, ⟨hm, by omega⟩, fin _ _ (Int.emod_nonneg _ (by omega)) (Int.emod_lt_of_pos _ hm) ⟨_, _, _, rfl, Int.ediv_nonneg h1 (by omega), h2, h3, h4, by omega⟩⟩
  · rw [if_neg c1, hN]
    refine seq_g fun N hN => ?_
    simp only [dSeq, dNext, dRet, dRetN, dDrop, dSet, dIfS, dBrk, dCnt, dPar, dAug, dSetIx, dFor, dUnp, dVar, dC, dOp, dSl, dSlC, dPart, dNo, dTup, dLst, dLstC, dIf, dNot, dAnd, dOr, rNegD, dCall, dM, dM0, dApp, dFrz, dFz, dLc, dFn, dFn0, dFnK, aCons, aNil,
    qTru, qNot, qAnd, qOr, qYes, iLst, iTp, iStr', iR1, iR2, Tgt.d, setAll, wipeG, rAddD, rSubD, rMulD, rModD, rFdivD, rPowD, rOrdD, rIAddD, rIsN', rIxD, rSlD, rLen, rAbs, rMax2, rMin2, rInt1, rOrd, rListOf, rListOfC, rTupleOf, rIsiD,
    mSplit, mPart, mJoin, mStarts, mEnds, startG, endG, endN, endW, eqS_iff, eqI_iff, eqB_iff, eqL_iff, lsOwn_ls, lsOf_ls, lsOf_rl, sqOf_ls, sqOf_rl, sqOf_tp, tpOf_tp, truD_ls, truD_rl, truD_tp, truD_bl, truD_int, truD_non, cPure, cNew, cBagA, sPure, isNon, flatD, tyD,
    cut_from1, cut_init, atI_0, atI_1, atI_2, atI_last, List.map_cons, List.map_nil, List.cons_append, List.nil_append, List.replicate, List.getElem?_cons_zero, List.getElem?_cons_succ, List.getElem?_nil, List.set_cons_zero, List.set_cons_succ, Option.some.injEq, exists_eq_left', exists_eq_left, Option.some_or, Option.none_or, Option.or_some, List.length_cons, List.length_nil, List.length_map, Nat.sub_zero, Nat.reduceSub, Nat.reduceAdd, Nat.reduceLeDiff, List.isEmpty_cons, List.isEmpty_nil, true_and, and_true, if_true, if_false, reduceIte, Bool.not_true, Bool.not_false, Bool.false_eq_true, reduceCtorEq, List.forall_mem_cons, List.forall_mem_nil, implies_true, List.mem_singleton, forall_eq, decide_eq_true_eq, Bool.not_eq_true', decide_eq_false_iff_not, okM0_iff, List.take_zero, gr_str_iff, gr_int_iff, gr_bl_iff, gr_non_iff, gr_lss_iff, gr_ls0_iff, sqOf_1, lsOf_1, lsOwn_1, ixN_30, ixN_31, ixN_32, setIx_iff, setIx_iff', D.cel.injEq, not_true_eq_false, not_false_eq_true]
    rw [hN]
    refine seq_g fun N hN => ?_
    simp only [dSeq, dNext, dRet, dRetN, dDrop, dSet, dIfS, dBrk, dCnt, dPar, dAug, dSetIx, dFor, dUnp, dVar, dC, dOp, dSl, dSlC, dPart, dNo, dTup, dLst, dLstC, dIf, dNot, dAnd, dOr, rNegD, dCall, dM, dM0, dApp, dFrz, dFz, dLc, dFn, dFn0, dFnK, aCons, aNil,
    qTru, qNot, qAnd, qOr, qYes, iLst, iTp, iStr', iR1, iR2, Tgt.d, setAll, wipeG, rAddD, rSubD, rMulD, rModD, rFdivD, rPowD, rOrdD, rIAddD, rIsN', rIxD, rSlD, rLen, rAbs, rMax2, rMin2, rInt1, rOrd, rListOf, rListOfC, rTupleOf, rIsiD,
    mSplit, mPart, mJoin, mStarts, mEnds, startG, endG, endN, endW, eqS_iff, eqI_iff, eqB_iff, eqL_iff, lsOwn_ls, lsOf_ls, lsOf_rl, sqOf_ls, sqOf_rl, sqOf_tp, tpOf_tp, truD_ls, truD_rl, truD_tp, truD_bl, truD_int, truD_non, cPure, cNew, cBagA, sPure, isNon, flatD, tyD,
    cut_from1, cut_init, atI_0, atI_1, atI_2, atI_last, List.map_cons, List.map_nil, List.cons_append, List.nil_append, List.replicate, List.getElem?_cons_zero, List.getElem?_cons_succ, List.getElem?_nil, List.set_cons_zero, List.set_cons_succ, Option.some.injEq, exists_eq_left', exists_eq_left, Option.some_or, Option.none_or, Option.or_some, List.length_cons, List.length_nil, List.length_map, Nat.sub_zero, Nat.reduceSub, Nat.reduceAdd, Nat.reduceLeDiff, List.isEmpty_cons, List.isEmpty_nil, true_and, and_true, if_true, if_false, reduceIte, Bool.not_true, Bool.not_false, Bool.false_eq_true, reduceCtorEq, List.forall_mem_cons, List.forall_mem_nil, implies_true, List.mem_singleton, forall_eq, decide_eq_true_eq, Bool.not_eq_true', decide_eq_false_iff_not, okM0_iff, List.take_zero, gr_str_iff, gr_int_iff, gr_bl_iff, gr_non_iff, gr_lss_iff, gr_ls0_iff, sqOf_1, lsOf_1, lsOwn_1, ixN_30, ixN_31, ixN_32, setIx_iff, setIx_iff', D.cel.injEq, not_true_eq_false, not_false_eq_true]
    refine ⟨.inr (.inl (by decide)), .inl (by decide), .inr (.inl ⟨by omega, by omega⟩), by decide, ?_⟩
    rw [hN]
    simp only [dSeq, dNext, dRet, dRetN, dDrop, dSet, dIfS, dBrk, dCnt, dPar, dAug, dSetIx, dFor, dUnp, dVar, dC, dOp, dSl, dSlC, dPart, dNo, dTup, dLst, dLstC, dIf, dNot, dAnd, dOr, rNegD, dCall, dM, dM0, dApp, dFrz, dFz, dLc, dFn, dFn0, dFnK, aCons, aNil,
    qTru, qNot, qAnd, qOr, qYes, iLst, iTp, iStr', iR1, iR2, Tgt.d, setAll, wipeG, rAddD, rSubD, rMulD, rModD, rFdivD, rPowD, rOrdD, rIAddD, rIsN', rIxD, rSlD, rLen, rAbs, rMax2, rMin2, rInt1, rOrd, rListOf, rListOfC, rTupleOf, rIsiD,
    mSplit, mPart, mJoin, mStarts, mEnds, startG, endG, endN, endW, eqS_iff, eqI_iff, eqB_iff, eqL_iff, lsOwn_ls, lsOf_ls, lsOf_rl, sqOf_ls, sqOf_rl, sqOf_tp, tpOf_tp, truD_ls, truD_rl, truD_tp, truD_bl, truD_int, truD_non, cPure, cNew, cBagA, sPure, isNon, flatD, tyD,
    cut_from1, cut_init, atI_0, atI_1, atI_2, atI_last, List.map_cons, List.map_nil, List.cons_append, List.nil_append, List.replicate, List.getElem?_cons_zero, List.getElem?_cons_succ, List.getElem?_nil, List.set_cons_zero, List.set_cons_succ, Option.some.injEq, exists_eq_left', exists_eq_left, Option.some_or, Option.none_or, Option.or_some, List.length_cons, List.length_nil, List.length_map, Nat.sub_zero, Nat.reduceSub, Nat.reduceAdd, Nat.reduceLeDiff, List.isEmpty_cons, List.isEmpty_nil, true_and, and_true, if_true, if_false, reduceIte, Bool.not_true, Bool.not_false, Bool.false_eq_true, reduceCtorEq, List.forall_mem_cons, List.forall_mem_nil, implies_true, List.mem_singleton, forall_eq, decide_eq_true_eq, Bool.not_eq_true', decide_eq_false_iff_not, okM0_iff, List.take_zero, gr_str_iff, gr_int_iff, gr_bl_iff, gr_non_iff, gr_lss_iff, gr_ls0_iff, sqOf_1, lsOf_1, lsOwn_1, ixN_30, ixN_31, ixN_32, setIx_iff, setIx_iff', D.cel.injEq, not_true_eq_false, not_false_eq_true]
    generalize (s * 40692 + 6121 * (c + 1) * (c + 1) + 29) = z
    have z0 : 0 ≤ z % 2147483399 := by omega
    have z1 : z % 2147483399 < 2147483399 := by omega
    refine ⟨by decide, ⟨by decide, by decide, ?_⟩, by decide, by decide, hm, fin _ _ (Int.emod_nonneg _ (by omega)) (Int.emod_lt_of_pos _ hm) ⟨_, _, _, rfl, h1, z0, by omega, by omega, by omega⟩⟩
    omega

theorem bag_ok {n : Nat} {l : List D} (h : BagOk n l) : GrM (.ls l) := h.gr
/-- a text from a fixed list -/
def sp_pick (some' : List Tx) : DSpec := fun ds M K _ => ∃ (l : List D) (n : Nat), ds = [.cel 0] ∧ M = [.ls l] ∧ BagOk n l ∧ n ≤ 90000 ∧ ∀ s l', s ∈ some' → BagOk (n + 1) l' → K (.str s) [.ls l']
abbrev segPool : List Tx := [[97], [98], [], [46], [46, 46], [94, 50, 101], [46, 94, 50, 69], [94, 50, 101, 94, 50, 101], [120, 58, 121], [59, 112], [97, 46, 98], [46, 46, 46], [94, 52, 49], [64], [99]]
def sp_law_segment : DSpec := sp_pick segPool
def rd_law_segment : DS :=
  (dSeq (dSet 1 (dLst (aCons (dC (.str [97])) (aCons (dC (.str [98])) (aCons (dC (.str [])) (aCons (dC (.str [46])) (aCons (dC (.str [46, 46])) (aCons (dC (.str [94, 50, 101])) (aCons (dC (.str [46, 94, 50, 69])) (aCons (dC (.str [94, 50, 101, 94, 50, 101])) (aCons (dC (.str [120, 58, 121])) (aCons (dC (.str [59, 112])) (aCons (dC (.str [97, 46, 98])) (aCons (dC (.str [46, 46, 46])) (aCons (dC (.str [94, 52, 49])) (aCons (dC (.str [64])) (aCons (dC (.str [99])) aNil)))))))))))))))))
    (dRet (dOp rIxD (dVar 1) (dFn (cBagA 0 sp_law_take) [] (aCons (dVar 0) (aCons (dC (.int 15)) aNil))))))
theorem sem_law_segment (ds : List D) (M : MM) (K0 : Kd) (R0 : Kx) (h : sp_law_segment ds M K0 R0) : rd_law_segment (endG M.length K0 R0) (startG 2 ds) M := by
  obtain ⟨l, n, rfl, rfl, hb, hn, k⟩ := h
  simp only [rd_law_segment, dSeq, dNext, dRet, dRetN, dDrop, dSet, dIfS, dBrk, dCnt, dPar, dAug, dSetIx, dFor, dUnp, dVar, dC, dOp, dSl, dSlC, dPart, dNo, dTup, dLst, dLstC, dIf, dNot, dAnd, dOr, rNegD, dCall, dM, dM0, dApp, dFrz, dFz, dLc, dFn, dFn0, dFnK, aCons, aNil,
    qTru, qNot, qAnd, qOr, qYes, iLst, iTp, iStr', iR1, iR2, Tgt.d, setAll, wipeG, rAddD, rSubD, rMulD, rModD, rFdivD, rPowD, rOrdD, rIAddD, rIsN', rIxD, rSlD, rLen, rAbs, rMax2, rMin2, rInt1, rOrd, rListOf, rListOfC, rTupleOf, rIsiD,
    mSplit, mPart, mJoin, mStarts, mEnds, startG, endG, endN, endW, eqS_iff, eqI_iff, eqB_iff, eqL_iff, lsOwn_ls, lsOf_ls, lsOf_rl, sqOf_ls, sqOf_rl, sqOf_tp, tpOf_tp, truD_ls, truD_rl, truD_tp, truD_bl, truD_int, truD_non, cPure, cNew, cBagA, sPure, isNon, flatD, tyD,
    cut_from1, cut_init, atI_0, atI_1, atI_2, atI_last, List.map_cons, List.map_nil, List.cons_append, List.nil_append, List.replicate, List.getElem?_cons_zero, List.getElem?_cons_succ, List.getElem?_nil, List.set_cons_zero, List.set_cons_succ, Option.some.injEq, exists_eq_left', exists_eq_left, Option.some_or, Option.none_or, Option.or_some, List.length_cons, List.length_nil, List.length_map, Nat.sub_zero, Nat.reduceSub, Nat.reduceAdd, Nat.reduceLeDiff, List.isEmpty_cons, List.isEmpty_nil, true_and, and_true, if_true, if_false, reduceIte, Bool.not_true, Bool.not_false, Bool.false_eq_true, reduceCtorEq, List.forall_mem_cons, List.forall_mem_nil, implies_true, List.mem_singleton, forall_eq, decide_eq_true_eq, Bool.not_eq_true', decide_eq_false_iff_not, okM0_iff, List.take_zero, gr_str_iff, gr_int_iff, gr_bl_iff, gr_non_iff, gr_lss_iff, gr_ls0_iff, sqOf_1, lsOf_1, lsOwn_1, ixN_30, ixN_31, ixN_32, setIx_iff, setIx_iff', D.cel.injEq, not_true_eq_false, not_false_eq_true]
  refine ⟨_, rfl, bag_ok hb, by simp [Gr], l, n, 15, rfl, rfl, hb, by omega, by decide, by decide, fun x l' x0 x1 hb' => ⟨_, rfl, bag_ok hb', trivial, ?_⟩⟩
  obtain ⟨j, rfl⟩ : ∃ j : Nat, x = j := ⟨x.toNat, by omega⟩
  have hj : j < segPool.length := by
    show j < 15
    omega
  refine ⟨.str (segPool[j]'hj), ?_, trivial, fun m' h => ?_, k _ l' (List.getElem_mem hj) hb'⟩
  · show atI (segPool.map D.str) (j : Int) = _
    rw [atI_nat, List.getElem?_map, List.getElem?_eq_getElem hj]
    rfl
  · have e : m' = .ls l' := by simpa using h
    rw [e]
    exact bag_ok hb'
/-- what a road is made of -/
theorem pool_small : ∀ s ∈ segPool, s.length ≤ 6 := by decide
def sp_law_rooted : DSpec := fun ds M K _ => ∃ (l : List D) (n : Nat) (m : Nat) (b : Bool), ds = [.cel 0, .int m, .bl b] ∧ M = [.ls l] ∧ BagOk n l ∧ n ≤ 80000 ∧ 0 < m ∧ m ≤ 20 ∧ ∀ (s : Tx) l', s.length ≤ 200 → BagOk (n + m + 1) l' → K (.str s) [.ls l']
def rd_law_rooted : DS :=
  (dSeq (dSet 3 (dOp rAddD (dC (.str [47])) (dM mJoin (dC (.str [47])) (aCons (dLc (iR1 (aCons (dOp rAddD (dC (.int 1)) (dFn (cBagA 0 sp_law_take) [] (aCons (dVar 0) (aCons (dVar 1) aNil)))) aNil)) (Tgt.nm 4) qYes (dFn (cBagA 0 sp_law_segment) [] (aCons (dVar 0) aNil)) [4]) aNil))))
    (dRet (dIf (qAnd (qNot (qTru (dVar 2))) (qTru (dOp (rEqD' false) (dSl (dVar 3) dNo (dPart (dC (.int 2)))) (dC (.str [47, 47]))))) (dOp rAddD (dC (.str [47, 46])) (dVar 3)) (dVar 3))))
theorem okM1 {n : Nat} {l : List D} (h : BagOk n l) : OkM 1 [.ls l] := fun m' h' => by
  have e : m' = .ls l := by simpa using h'
  rw [e]
  exact bag_ok h
theorem wt_pool (ss : List Tx) (h : ∀ s ∈ ss, s ∈ segPool) : (ss.map List.length).sum ≤ ss.length * 6 := by
  induction ss with
  | nil => exact Nat.zero_le _
  | cons a r ih =>
    have h1 := pool_small a (h a List.mem_cons_self)
    have h2 := ih fun s hs => h s (List.mem_cons_of_mem _ hs)
    simp only [List.map_cons, List.sum_cons, List.length_cons]
    omega
theorem comp_rooted {chk : MM → Prop} (hc : ∀ M, chk M) {Γw : G} {K : Kd} {l : List D} {n c : Nat} (hg : Γw[0]? = some (some (.cel 0))) (hlen : Γw.length = 5) (hb : BagOk n l) (hn : n + c ≤ 90000) (hm : c ≤ 20)
    (k : ∀ (ss : List Tx) l', ss.length = c → (∀ s ∈ ss, s ∈ segPool) → BagOk (n + c) l' → K (.ls (ss.map .str)) [.ls l']) (items : List D) (hi : items.length = c) :
    compD chk (Tgt.nm 4) qYes (dFn (cBagA 0 sp_law_segment) [] (aCons (dVar 0) aNil)) Γw K items [] [.ls l] := by
  refine comp_ind (P := fun r acc M => ∃ (ss : List Tx) (l' : List D), acc = ss.map .str ∧ M = [.ls l'] ∧ ss.length + r.length = c ∧ (∀ s ∈ ss, s ∈ segPool) ∧ BagOk (n + ss.length) l') ?_ ?_ items [] _ ⟨[], l, rfl, rfl, by simpa using hi, by simp, hb⟩
  · rintro acc M ⟨ss, l', rfl, rfl, h1, h2, h3⟩
    have h1 : ss.length = c := by simpa using h1
    exact ⟨hc _, k ss l' h1 h2 (by rw [← h1]; exact h3)⟩
  · rintro d r acc M N hN ⟨ss, l', rfl, rfl, h1, h2, h3⟩
    have h1 : ss.length + (r.length + 1) = c := by simpa using h1
    refine ⟨hc _, ?_⟩
    simp only [dSeq, dNext, dRet, dRetN, dDrop, dSet, dIfS, dBrk, dCnt, dPar, dAug, dSetIx, dFor, dUnp, dVar, dC, dOp, dSl, dSlC, dPart, dNo, dTup, dLst, dLstC, dIf, dNot, dAnd, dOr, rNegD, dCall, dM, dM0, dApp, dFrz, dFz, dLc, dFn, dFn0, dFnK, aCons, aNil,
    qTru, qNot, qAnd, qOr, qYes, iLst, iTp, iStr', iR1, iR2, Tgt.d, setAll, wipeG, rAddD, rSubD, rMulD, rModD, rFdivD, rPowD, rOrdD, rIAddD, rIsN', rIxD, rSlD, rLen, rAbs, rMax2, rMin2, rInt1, rOrd, rListOf, rListOfC, rTupleOf, rIsiD,
    mSplit, mPart, mJoin, mStarts, mEnds, startG, endG, endN, endW, eqS_iff, eqI_iff, eqB_iff, eqL_iff, lsOwn_ls, lsOf_ls, lsOf_rl, sqOf_ls, sqOf_rl, sqOf_tp, tpOf_tp, truD_ls, truD_rl, truD_tp, truD_bl, truD_int, truD_non, cPure, cNew, cBagA, sPure, isNon, flatD, tyD,
    cut_from1, cut_init, atI_0, atI_1, atI_2, atI_last, List.map_cons, List.map_nil, List.cons_append, List.nil_append, List.replicate, List.getElem?_cons_zero, List.getElem?_cons_succ, List.getElem?_nil, List.set_cons_zero, List.set_cons_succ, Option.some.injEq, exists_eq_left', exists_eq_left, Option.some_or, Option.none_or, Option.or_some, List.length_cons, List.length_nil, List.length_map, Nat.sub_zero, Nat.reduceSub, Nat.reduceAdd, Nat.reduceLeDiff, List.isEmpty_cons, List.isEmpty_nil, true_and, and_true, if_true, if_false, reduceIte, Bool.not_true, Bool.not_false, Bool.false_eq_true, reduceCtorEq, List.forall_mem_cons, List.forall_mem_nil, implies_true, List.mem_singleton, forall_eq, decide_eq_true_eq, Bool.not_eq_true', decide_eq_false_iff_not, okM0_iff, List.take_zero, gr_str_iff, gr_int_iff, gr_bl_iff, gr_non_iff, gr_lss_iff, gr_ls0_iff, sqOf_1, lsOf_1, lsOwn_1, ixN_30, ixN_31, ixN_32, setIx_iff, setIx_iff', D.cel.injEq, not_true_eq_false, not_false_eq_true]
    refine ⟨_, (List.getElem?_set_ne (by decide)).trans hg, 0, rfl, _, rfl, bag_ok h3, by simp, l', n + ss.length, rfl, rfl, h3, by omega, fun s l2 hs hb2 => ⟨_, rfl, bag_ok hb2, trivial, by omega, hN _ _ ⟨ss ++ [s], l2, by simp, rfl, by simp; omega, ?_, by simpa [Nat.add_assoc] using hb2⟩⟩⟩
    intro t ht
    rcases List.mem_append.mp ht with h | h
    · exact h2 t h
    · rw [List.mem_singleton.mp h]; exact hs
theorem sem_law_rooted (ds : List D) (M : MM) (K0 : Kd) (R0 : Kx) (h : sp_law_rooted ds M K0 R0) : rd_law_rooted (endG M.length K0 R0) (startG 5 ds) M := by
  obtain ⟨l, n, m, b, rfl, rfl, hb, hn, hm, hm2, k⟩ := h
  unfold rd_law_rooted
  refine seq_g fun N hN => ?_
  simp only [dSeq, dNext, dRet, dRetN, dDrop, dSet, dIfS, dBrk, dCnt, dPar, dAug, dSetIx, dFor, dUnp, dVar, dC, dOp, dSl, dSlC, dPart, dNo, dTup, dLst, dLstC, dIf, dNot, dAnd, dOr, rNegD, dCall, dM, dM0, dApp, dFrz, dFz, dLc, dFn, dFn0, dFnK, aCons, aNil,
    qTru, qNot, qAnd, qOr, qYes, iLst, iTp, iStr', iR1, iR2, Tgt.d, setAll, wipeG, rAddD, rSubD, rMulD, rModD, rFdivD, rPowD, rOrdD, rIAddD, rIsN', rIxD, rSlD, rLen, rAbs, rMax2, rMin2, rInt1, rOrd, rListOf, rListOfC, rTupleOf, rIsiD,
    mSplit, mPart, mJoin, mStarts, mEnds, startG, endG, endN, endW, eqS_iff, eqI_iff, eqB_iff, eqL_iff, lsOwn_ls, lsOf_ls, lsOf_rl, sqOf_ls, sqOf_rl, sqOf_tp, tpOf_tp, truD_ls, truD_rl, truD_tp, truD_bl, truD_int, truD_non, cPure, cNew, cBagA, sPure, isNon, flatD, tyD,
    cut_from1, cut_init, atI_0, atI_1, atI_2, atI_last, List.map_cons, List.map_nil, List.cons_append, List.nil_append, List.replicate, List.getElem?_cons_zero, List.getElem?_cons_succ, List.getElem?_nil, List.set_cons_zero, List.set_cons_succ, Option.some.injEq, exists_eq_left', exists_eq_left, Option.some_or, Option.none_or, Option.or_some, List.length_cons, List.length_nil, List.length_map, Nat.sub_zero, Nat.reduceSub, Nat.reduceAdd, Nat.reduceLeDiff, List.isEmpty_cons, List.isEmpty_nil, true_and, and_true, if_true, if_false, reduceIte, Bool.not_true, Bool.not_false, Bool.false_eq_true, reduceCtorEq, List.forall_mem_cons, List.forall_mem_nil, implies_true, List.mem_singleton, forall_eq, decide_eq_true_eq, Bool.not_eq_true', decide_eq_false_iff_not, okM0_iff, List.take_zero, gr_str_iff, gr_int_iff, gr_bl_iff, gr_non_iff, gr_lss_iff, gr_ls0_iff, sqOf_1, lsOf_1, lsOwn_1, ixN_30, ixN_31, ixN_32, setIx_iff, setIx_iff', D.cel.injEq, not_true_eq_false, not_false_eq_true]
  refine ⟨_, rfl, bag_ok hb, by simp [Gr], l, n, m, rfl, rfl, hb, by omega, by omega, by omega, fun x l' x0 x1 hb' => ⟨_, rfl, bag_ok hb', trivial, ?_⟩⟩
  obtain ⟨j, rfl⟩ : ∃ j : Nat, x = j := ⟨x.toNat, by omega⟩
  refine ⟨_, rfl, by omega, by omega, ?_⟩
  refine comp_rooted (fun _ => trivial) rfl rfl hb' (c := 1 + j) (by omega) (by omega) ?_ _ (by simp; omega)
  intro ss l2 h1 h2 h3
  have hs := wt_pool ss h2
  have hj : (jn [47] ss).length ≤ ss.length * 7 := by
    have : (jn [47] ss).length ≤ (ss.map List.length).sum + ss.length * 1 := jn_len [47] ss
    omega
  have fin : ∀ s : Tx, s.length ≤ 200 → OkM 1 [.ls l2] ∧ K0 (.str s) (([.ls l2] : MM).take 1) := fun s hs' => ⟨okM1 h3, k s l2 hs' (h3.mono (by omega))⟩
  simp only [dSeq, dNext, dRet, dRetN, dDrop, dSet, dIfS, dBrk, dCnt, dPar, dAug, dSetIx, dFor, dUnp, dVar, dC, dOp, dSl, dSlC, dPart, dNo, dTup, dLst, dLstC, dIf, dNot, dAnd, dOr, rNegD, dCall, dM, dM0, dApp, dFrz, dFz, dLc, dFn, dFn0, dFnK, aCons, aNil,
    qTru, qNot, qAnd, qOr, qYes, iLst, iTp, iStr', iR1, iR2, Tgt.d, setAll, wipeG, rAddD, rSubD, rMulD, rModD, rFdivD, rPowD, rOrdD, rIAddD, rIsN', rIxD, rSlD, rLen, rAbs, rMax2, rMin2, rInt1, rOrd, rListOf, rListOfC, rTupleOf, rIsiD,
    mSplit, mPart, mJoin, mStarts, mEnds, startG, endG, endN, endW, eqS_iff, eqI_iff, eqB_iff, eqL_iff, lsOwn_ls, lsOf_ls, lsOf_rl, sqOf_ls, sqOf_rl, sqOf_tp, tpOf_tp, truD_ls, truD_rl, truD_tp, truD_bl, truD_int, truD_non, cPure, cNew, cBagA, sPure, isNon, flatD, tyD,
    cut_from1, cut_init, atI_0, atI_1, atI_2, atI_last, List.map_cons, List.map_nil, List.cons_append, List.nil_append, List.replicate, List.getElem?_cons_zero, List.getElem?_cons_succ, List.getElem?_nil, List.set_cons_zero, List.set_cons_succ, Option.some.injEq, exists_eq_left', exists_eq_left, Option.some_or, Option.none_or, Option.or_some, List.length_cons, List.length_nil, List.length_map, Nat.sub_zero, Nat.reduceSub, Nat.reduceAdd, Nat.reduceLeDiff, List.isEmpty_cons, List.isEmpty_nil, true_and, and_true, if_true, if_false, reduceIte, Bool.not_true, Bool.not_false, Bool.false_eq_true, reduceCtorEq, List.forall_mem_cons, List.forall_mem_nil, implies_true, List.mem_singleton, forall_eq, decide_eq_true_eq, Bool.not_eq_true', decide_eq_false_iff_not, okM0_iff, List.take_zero, gr_str_iff, gr_int_iff, gr_bl_iff, gr_non_iff, gr_lss_iff, gr_ls0_iff, sqOf_1, lsOf_1, lsOwn_1, ixN_30, ixN_31, ixN_32, setIx_iff, setIx_iff', D.cel.injEq, not_true_eq_false, not_false_eq_true]
  refine ⟨ss, rfl, ?_, by omega, ?_⟩
  · show (ss.map List.length).sum + ss.length * 1 ≤ 16777216
    omega
  rw [hN]
  simp only [dSeq, dNext, dRet, dRetN, dDrop, dSet, dIfS, dBrk, dCnt, dPar, dAug, dSetIx, dFor, dUnp, dVar, dC, dOp, dSl, dSlC, dPart, dNo, dTup, dLst, dLstC, dIf, dNot, dAnd, dOr, rNegD, dCall, dM, dM0, dApp, dFrz, dFz, dLc, dFn, dFn0, dFnK, aCons, aNil,
    qTru, qNot, qAnd, qOr, qYes, iLst, iTp, iStr', iR1, iR2, Tgt.d, setAll, wipeG, rAddD, rSubD, rMulD, rModD, rFdivD, rPowD, rOrdD, rIAddD, rIsN', rIxD, rSlD, rLen, rAbs, rMax2, rMin2, rInt1, rOrd, rListOf, rListOfC, rTupleOf, rIsiD,
    mSplit, mPart, mJoin, mStarts, mEnds, startG, endG, endN, endW, eqS_iff, eqI_iff, eqB_iff, eqL_iff, lsOwn_ls, lsOf_ls, lsOf_rl, sqOf_ls, sqOf_rl, sqOf_tp, tpOf_tp, truD_ls, truD_rl, truD_tp, truD_bl, truD_int, truD_non, cPure, cNew, cBagA, sPure, isNon, flatD, tyD,
    cut_from1, cut_init, atI_0, atI_1, atI_2, atI_last, List.map_cons, List.map_nil, List.cons_append, List.nil_append, List.replicate, List.getElem?_cons_zero, List.getElem?_cons_succ, List.getElem?_nil, List.set_cons_zero, List.set_cons_succ, Option.some.injEq, exists_eq_left', exists_eq_left, Option.some_or, Option.none_or, Option.or_some, List.length_cons, List.length_nil, List.length_map, Nat.sub_zero, Nat.reduceSub, Nat.reduceAdd, Nat.reduceLeDiff, List.isEmpty_cons, List.isEmpty_nil, true_and, and_true, if_true, if_false, reduceIte, Bool.not_true, Bool.not_false, Bool.false_eq_true, reduceCtorEq, List.forall_mem_cons, List.forall_mem_nil, implies_true, List.mem_singleton, forall_eq, decide_eq_true_eq, Bool.not_eq_true', decide_eq_false_iff_not, okM0_iff, List.take_zero, gr_str_iff, gr_int_iff, gr_bl_iff, gr_non_iff, gr_lss_iff, gr_ls0_iff, sqOf_1, lsOf_1, lsOwn_1, ixN_30, ixN_31, ixN_32, setIx_iff, setIx_iff', D.cel.injEq, not_true_eq_false, not_false_eq_true]
  have f1 := fin (47 :: jn [47] ss) (by simp; omega)
  have f2 := fin (47 :: 46 :: 47 :: jn [47] ss) (by simp; omega)
  cases b with
  | true => exact f1
  | false =>
    simp only [dSeq, dNext, dRet, dRetN, dDrop, dSet, dIfS, dBrk, dCnt, dPar, dAug, dSetIx, dFor, dUnp, dVar, dC, dOp, dSl, dSlC, dPart, dNo, dTup, dLst, dLstC, dIf, dNot, dAnd, dOr, rNegD, dCall, dM, dM0, dApp, dFrz, dFz, dLc, dFn, dFn0, dFnK, aCons, aNil,
    qTru, qNot, qAnd, qOr, qYes, iLst, iTp, iStr', iR1, iR2, Tgt.d, setAll, wipeG, rAddD, rSubD, rMulD, rModD, rFdivD, rPowD, rOrdD, rIAddD, rIsN', rIxD, rSlD, rLen, rAbs, rMax2, rMin2, rInt1, rOrd, rListOf, rListOfC, rTupleOf, rIsiD,
    mSplit, mPart, mJoin, mStarts, mEnds, startG, endG, endN, endW, eqS_iff, eqI_iff, eqB_iff, eqL_iff, lsOwn_ls, lsOf_ls, lsOf_rl, sqOf_ls, sqOf_rl, sqOf_tp, tpOf_tp, truD_ls, truD_rl, truD_tp, truD_bl, truD_int, truD_non, cPure, cNew, cBagA, sPure, isNon, flatD, tyD,
    cut_from1, cut_init, atI_0, atI_1, atI_2, atI_last, List.map_cons, List.map_nil, List.cons_append, List.nil_append, List.replicate, List.getElem?_cons_zero, List.getElem?_cons_succ, List.getElem?_nil, List.set_cons_zero, List.set_cons_succ, Option.some.injEq, exists_eq_left', exists_eq_left, Option.some_or, Option.none_or, Option.or_some, List.length_cons, List.length_nil, List.length_map, Nat.sub_zero, Nat.reduceSub, Nat.reduceAdd, Nat.reduceLeDiff, List.isEmpty_cons, List.isEmpty_nil, true_and, and_true, if_true, if_false, reduceIte, Bool.not_true, Bool.not_false, Bool.false_eq_true, reduceCtorEq, List.forall_mem_cons, List.forall_mem_nil, implies_true, List.mem_singleton, forall_eq, decide_eq_true_eq, Bool.not_eq_true', decide_eq_false_iff_not, okM0_iff, List.take_zero, gr_str_iff, gr_int_iff, gr_bl_iff, gr_non_iff, gr_lss_iff, gr_ls0_iff, sqOf_1, lsOf_1, lsOwn_1, ixN_30, ixN_31, ixN_32, setIx_iff, setIx_iff', D.cel.injEq, not_true_eq_false, not_false_eq_true]
    refine ⟨by omega, ?_⟩
    split
    · exact ⟨by omega, f2⟩
    · exact f1
/-! ### the law's stack -/
def lstep (acc : List Tx) (s : Tx) : List Tx := if s = [46, 46] then acc.dropLast else if s = [46] then acc else acc ++ [s]
end L3

namespace L3
open PySem PySem.Spec PyProof.Rows L2 Evl
open Classical

/-! ### the law's stack -/
theorem cut_less {α : Type} (l : List α) : cut l none (some (if (l.length : Int) - 1 > 0 then (l.length : Int) - 1 else 0)) = l.dropLast := by
  have e : (if (l.length : Int) - 1 > 0 then (l.length : Int) - 1 else 0) = ((l.length - 1 : Nat) : Int) := by
    split <;> omega
  rw [e, cut_to, List.dropLast_eq_take]
def lawStack (p : Tx) : List Tx := stackOf p
def sp_law_stack : DSpec := fun ds M K _ => ∃ p : Tx, ds = [.str p] ∧ M = [] ∧ p.length ≤ 1000 ∧ K (.ls ((stackOf p).map .str)) []
def lb0_law_stack : DS :=
  (dIfS (qTru (dOp (rEqD' false) (dVar 3) (dC (.str [46, 46]))))
    (dSet 1 (dSlC (dVar 1) dNo (dPart (dCall rMax2 (aCons (dC (.int 0)) (aCons (dOp rSubD (dCall rLen (aCons (dVar 1) aNil)) (dC (.int 1))) aNil))))))
    (dIfS (qTru (dOp (rEqD' true) (dVar 3) (dC (.str [46]))))
    (dDrop (dApp (dVar 1) (dVar 3)))
    dNext))
def rd_law_stack : DS :=
  (dSeq (dPar 1 2 (aCons (dLstC aNil) (aCons (dM mSplit (dSl (dVar 0) (dPart (dC (.int 1))) dNo) (aCons (dC (.str [47])) aNil)) aNil)))
    (dSeq (dFor (iLst (dVar 2)) (Tgt.nm 3) lb0_law_stack)
    (dRet (dOp rAddD (dVar 1) (dOp rMulD (dLst (aCons (dC (.str [])) aNil)) (dCall rInt1 (aCons (dOp (rInD false) (dOp rIxD (dVar 2) (rNegD (dC (.int 1)))) (dLst (aCons (dC (.str [46])) (aCons (dC (.str [46, 46])) aNil)))) aNil)))))))
theorem loop_law_stack {chk : MM → Prop} (hc : ∀ M, chk M) {E : DEnds} {h : D} {rows res : List Tx} (m : List Tx) (acc : List Tx) (k : Nat) (M : MM) (o : Option D) (hM : M[k]? = some (.ls (acc.map .str))) (hw : wt acc + wt m ≤ 10000) (hr : push acc m = res)
    (q : ∀ k' M' o', M'[k']? = some (.ls (res.map .str)) → E.nx [some h, some (.cel k'), some (.ls (rows.map .str)), o'] M') :
    forD chk (Tgt.nm 3) lb0_law_stack E (m.map .str) [some h, some (.cel k), some (.ls (rows.map .str)), o] M := by
  refine for_ind (P := fun l Γ M => ∃ m acc k o, l = m.map D.str ∧ Γ = [some h, some (.cel k), some (.ls (rows.map .str)), o] ∧ M[k]? = some (.ls (acc.map .str)) ∧ wt acc + wt m ≤ 10000 ∧ push acc m = res) ?_ ?_ _ _ _ ⟨m, acc, k, o, rfl, rfl, hM, hw, hr⟩
  · rintro Γ M ⟨m, acc, k, o, e, rfl, hM, hw, hr⟩
    cases m with
    | nil => cases hr; exact ⟨hc _, q k M o hM⟩
    | cons => cases e
  · rintro d r Γ M N hN ⟨m, acc, k, o, e, rfl, hM, hw, hr⟩
    cases m with
    | nil => cases e
    | cons s m =>
      cases e
      have e : wt (s :: m) = wt [s] + wt m := wt_app [s] m
      have h2 := wt_pstep acc s
      have hr : push (pstep acc s) m = res := hr
      have go : ∀ k M, M[k]? = some (.ls ((pstep acc s).map .str)) → N [some h, some (.cel k), some (.ls (rows.map .str)), some (.str s)] M := fun k M hM => hN _ _ ⟨m, _, k, _, rfl, rfl, hM, by omega, hr⟩
      refine ⟨hc _, ?_⟩
      simp only [lb0_law_stack, dSeq, dNext, dRet, dRetN, dDrop, dSet, dIfS, dBrk, dCnt, dPar, dAug, dSetIx, dFor, dUnp, dVar, dC, dOp, dSl, dSlC, dPart, dNo, dTup, dLst, dLstC, dIf, dNot, dAnd, dOr, rNegD, dCall, dM, dM0, dApp, dFrz, dFz, dLc, dFn, dFn0, dFnK, aCons, aNil,
    qTru, qNot, qAnd, qOr, qYes, iLst, iTp, iStr', iR1, iR2, Tgt.d, setAll, wipeG, rAddD, rSubD, rMulD, rModD, rFdivD, rPowD, rOrdD, rIAddD, rIsN', rIxD, rSlD, rLen, rAbs, rMax2, rMin2, rInt1, rOrd, rListOf, rListOfC, rTupleOf, rIsiD,
    mSplit, mPart, mJoin, mStarts, mEnds, startG, endG, endN, endW, eqS_iff, eqI_iff, eqB_iff, eqL_iff, lsOwn_ls, lsOf_ls, lsOf_rl, sqOf_ls, sqOf_rl, sqOf_tp, tpOf_tp, truD_ls, truD_rl, truD_tp, truD_bl, truD_int, truD_non, cPure, cNew, cBagA, sPure, isNon, flatD, tyD,
    cut_from1, cut_init, atI_0, atI_1, atI_2, atI_last, List.map_cons, List.map_nil, List.cons_append, List.nil_append, List.replicate, List.getElem?_cons_zero, List.getElem?_cons_succ, List.getElem?_nil, List.set_cons_zero, List.set_cons_succ, Option.some.injEq, exists_eq_left', exists_eq_left, Option.some_or, Option.none_or, Option.or_some, List.length_cons, List.length_nil, List.length_map, Nat.sub_zero, Nat.reduceSub, Nat.reduceAdd, Nat.reduceLeDiff, List.isEmpty_cons, List.isEmpty_nil, true_and, and_true, if_true, if_false, reduceIte, Bool.not_true, Bool.not_false, Bool.false_eq_true, reduceCtorEq, List.forall_mem_cons, List.forall_mem_nil, implies_true, List.mem_singleton, forall_eq, decide_eq_true_eq, Bool.not_eq_true', decide_eq_false_iff_not, okM0_iff, List.take_zero, gr_str_iff, gr_int_iff, gr_bl_iff, gr_non_iff, gr_lss_iff, gr_ls0_iff, sqOf_1, lsOf_1, lsOwn_1, ixN_30, ixN_31, ixN_32, setIx_iff, setIx_iff', D.cel.injEq, not_true_eq_false, not_false_eq_true, lsOwn_cel hM, lsOf_cel hM, sqOf_cel hM]
      unfold pstep at go
      by_cases c1 : s = [46, 46]
      · rw [if_pos c1] at go ⊢
        refine go _ _ ?_
        rw [get_snoc, List.map_dropLast, ← List.length_map (f := D.str) (as := acc), cut_less]
      · rw [if_neg c1] at go ⊢
        by_cases c2 : s = [46]
        · rw [if_pos c2] at go
          rw [if_neg (fun z => z c2)]
          exact go _ _ hM
        · rw [if_neg c2] at go
          rw [if_pos c2]
          have := len_le_wt acc
          refine ⟨⟨_, hM⟩, _, hM, by simp; omega, go _ _ ?_⟩
          rw [get_set hM, List.map_append]
          rfl
theorem sem_law_stack (ds : List D) (M : MM) (K0 : Kd) (R0 : Kx) (h : sp_law_stack ds M K0 R0) : rd_law_stack (endG M.length K0 R0) (startG 4 ds) M := by
  obtain ⟨p, rfl, rfl, hp, k⟩ := h
  have hw := wt_segs p
  unfold rd_law_stack
  refine seq_g fun N hN => ?_
  simp only [dSeq, dNext, dRet, dRetN, dDrop, dSet, dIfS, dBrk, dCnt, dPar, dAug, dSetIx, dFor, dUnp, dVar, dC, dOp, dSl, dSlC, dPart, dNo, dTup, dLst, dLstC, dIf, dNot, dAnd, dOr, rNegD, dCall, dM, dM0, dApp, dFrz, dFz, dLc, dFn, dFn0, dFnK, aCons, aNil,
    qTru, qNot, qAnd, qOr, qYes, iLst, iTp, iStr', iR1, iR2, Tgt.d, setAll, wipeG, rAddD, rSubD, rMulD, rModD, rFdivD, rPowD, rOrdD, rIAddD, rIsN', rIxD, rSlD, rLen, rAbs, rMax2, rMin2, rInt1, rOrd, rListOf, rListOfC, rTupleOf, rIsiD,
    mSplit, mPart, mJoin, mStarts, mEnds, startG, endG, endN, endW, eqS_iff, eqI_iff, eqB_iff, eqL_iff, lsOwn_ls, lsOf_ls, lsOf_rl, sqOf_ls, sqOf_rl, sqOf_tp, tpOf_tp, truD_ls, truD_rl, truD_tp, truD_bl, truD_int, truD_non, cPure, cNew, cBagA, sPure, isNon, flatD, tyD,
    cut_from1, cut_init, atI_0, atI_1, atI_2, atI_last, List.map_cons, List.map_nil, List.cons_append, List.nil_append, List.replicate, List.getElem?_cons_zero, List.getElem?_cons_succ, List.getElem?_nil, List.set_cons_zero, List.set_cons_succ, Option.some.injEq, exists_eq_left', exists_eq_left, Option.some_or, Option.none_or, Option.or_some, List.length_cons, List.length_nil, List.length_map, Nat.sub_zero, Nat.reduceSub, Nat.reduceAdd, Nat.reduceLeDiff, List.isEmpty_cons, List.isEmpty_nil, true_and, and_true, if_true, if_false, reduceIte, Bool.not_true, Bool.not_false, Bool.false_eq_true, reduceCtorEq, List.forall_mem_cons, List.forall_mem_nil, implies_true, List.mem_singleton, forall_eq, decide_eq_true_eq, Bool.not_eq_true', decide_eq_false_iff_not, okM0_iff, List.take_zero, gr_str_iff, gr_int_iff, gr_bl_iff, gr_non_iff, gr_lss_iff, gr_ls0_iff, sqOf_1, lsOf_1, lsOwn_1, ixN_30, ixN_31, ixN_32, setIx_iff, setIx_iff', D.cel.injEq, not_true_eq_false, not_false_eq_true]
  refine ⟨by omega, by simp; omega, ?_⟩
  rw [hN]
  refine seq_g fun N hN => ?_
  simp only [dSeq, dNext, dRet, dRetN, dDrop, dSet, dIfS, dBrk, dCnt, dPar, dAug, dSetIx, dFor, dUnp, dVar, dC, dOp, dSl, dSlC, dPart, dNo, dTup, dLst, dLstC, dIf, dNot, dAnd, dOr, rNegD, dCall, dM, dM0, dApp, dFrz, dFz, dLc, dFn, dFn0, dFnK, aCons, aNil,
    qTru, qNot, qAnd, qOr, qYes, iLst, iTp, iStr', iR1, iR2, Tgt.d, setAll, wipeG, rAddD, rSubD, rMulD, rModD, rFdivD, rPowD, rOrdD, rIAddD, rIsN', rIxD, rSlD, rLen, rAbs, rMax2, rMin2, rInt1, rOrd, rListOf, rListOfC, rTupleOf, rIsiD,
    mSplit, mPart, mJoin, mStarts, mEnds, startG, endG, endN, endW, eqS_iff, eqI_iff, eqB_iff, eqL_iff, lsOwn_ls, lsOf_ls, lsOf_rl, sqOf_ls, sqOf_rl, sqOf_tp, tpOf_tp, truD_ls, truD_rl, truD_tp, truD_bl, truD_int, truD_non, cPure, cNew, cBagA, sPure, isNon, flatD, tyD,
    cut_from1, cut_init, atI_0, atI_1, atI_2, atI_last, List.map_cons, List.map_nil, List.cons_append, List.nil_append, List.replicate, List.getElem?_cons_zero, List.getElem?_cons_succ, List.getElem?_nil, List.set_cons_zero, List.set_cons_succ, Option.some.injEq, exists_eq_left', exists_eq_left, Option.some_or, Option.none_or, Option.or_some, List.length_cons, List.length_nil, List.length_map, Nat.sub_zero, Nat.reduceSub, Nat.reduceAdd, Nat.reduceLeDiff, List.isEmpty_cons, List.isEmpty_nil, true_and, and_true, if_true, if_false, reduceIte, Bool.not_true, Bool.not_false, Bool.false_eq_true, reduceCtorEq, List.forall_mem_cons, List.forall_mem_nil, implies_true, List.mem_singleton, forall_eq, decide_eq_true_eq, Bool.not_eq_true', decide_eq_false_iff_not, okM0_iff, List.take_zero, gr_str_iff, gr_int_iff, gr_bl_iff, gr_non_iff, gr_lss_iff, gr_ls0_iff, sqOf_1, lsOf_1, lsOwn_1, ixN_30, ixN_31, ixN_32, setIx_iff, setIx_iff', D.cel.injEq, not_true_eq_false, not_false_eq_true]
  have h4 : wt ([] : List Tx) = 0 := rfl
  refine loop_law_stack (rows := segs p) (fun _ => trivial) (segs p) [] 0 [.ls []] none rfl (by omega) rfl ?_
  intro k' M' o' hM
  rw [hN]
  simp only [dSeq, dNext, dRet, dRetN, dDrop, dSet, dIfS, dBrk, dCnt, dPar, dAug, dSetIx, dFor, dUnp, dVar, dC, dOp, dSl, dSlC, dPart, dNo, dTup, dLst, dLstC, dIf, dNot, dAnd, dOr, rNegD, dCall, dM, dM0, dApp, dFrz, dFz, dLc, dFn, dFn0, dFnK, aCons, aNil,
    qTru, qNot, qAnd, qOr, qYes, iLst, iTp, iStr', iR1, iR2, Tgt.d, setAll, wipeG, rAddD, rSubD, rMulD, rModD, rFdivD, rPowD, rOrdD, rIAddD, rIsN', rIxD, rSlD, rLen, rAbs, rMax2, rMin2, rInt1, rOrd, rListOf, rListOfC, rTupleOf, rIsiD,
    mSplit, mPart, mJoin, mStarts, mEnds, startG, endG, endN, endW, eqS_iff, eqI_iff, eqB_iff, eqL_iff, lsOwn_ls, lsOf_ls, lsOf_rl, sqOf_ls, sqOf_rl, sqOf_tp, tpOf_tp, truD_ls, truD_rl, truD_tp, truD_bl, truD_int, truD_non, cPure, cNew, cBagA, sPure, isNon, flatD, tyD,
    cut_from1, cut_init, atI_0, atI_1, atI_2, atI_last, List.map_cons, List.map_nil, List.cons_append, List.nil_append, List.replicate, List.getElem?_cons_zero, List.getElem?_cons_succ, List.getElem?_nil, List.set_cons_zero, List.set_cons_succ, Option.some.injEq, exists_eq_left', exists_eq_left, Option.some_or, Option.none_or, Option.or_some, List.length_cons, List.length_nil, List.length_map, Nat.sub_zero, Nat.reduceSub, Nat.reduceAdd, Nat.reduceLeDiff, List.isEmpty_cons, List.isEmpty_nil, true_and, and_true, if_true, if_false, reduceIte, Bool.not_true, Bool.not_false, Bool.false_eq_true, reduceCtorEq, List.forall_mem_cons, List.forall_mem_nil, implies_true, List.mem_singleton, forall_eq, decide_eq_true_eq, Bool.not_eq_true', decide_eq_false_iff_not, okM0_iff, List.take_zero, gr_str_iff, gr_int_iff, gr_bl_iff, gr_non_iff, gr_lss_iff, gr_ls0_iff, sqOf_1, lsOf_1, lsOwn_1, ixN_30, ixN_31, ixN_32, setIx_iff, setIx_iff', D.cel.injEq, not_true_eq_false, not_false_eq_true, lsOwn_cel hM, lsOf_cel hM, sqOf_cel hM]
  refine ⟨_, getLast_segs p, ?_⟩
  refine inL_strs (l := [[46], [46, 46]]) rfl ?_ (by simp)
  have h1 : (decide (lastS p ∈ [[46], [46, 46]])) = dotty (lastS p) := by
    unfold dotty
    rw [Bool.eq_iff_iff]
    simp
  have h5 := wt_push (segs p) []
  have h6 := len_le_wt (push [] (segs p))
  simp only [dSeq, dNext, dRet, dRetN, dDrop, dSet, dIfS, dBrk, dCnt, dPar, dAug, dSetIx, dFor, dUnp, dVar, dC, dOp, dSl, dSlC, dPart, dNo, dTup, dLst, dLstC, dIf, dNot, dAnd, dOr, rNegD, dCall, dM, dM0, dApp, dFrz, dFz, dLc, dFn, dFn0, dFnK, aCons, aNil,
    qTru, qNot, qAnd, qOr, qYes, iLst, iTp, iStr', iR1, iR2, Tgt.d, setAll, wipeG, rAddD, rSubD, rMulD, rModD, rFdivD, rPowD, rOrdD, rIAddD, rIsN', rIxD, rSlD, rLen, rAbs, rMax2, rMin2, rInt1, rOrd, rListOf, rListOfC, rTupleOf, rIsiD,
    mSplit, mPart, mJoin, mStarts, mEnds, startG, endG, endN, endW, eqS_iff, eqI_iff, eqB_iff, eqL_iff, lsOwn_ls, lsOf_ls, lsOf_rl, sqOf_ls, sqOf_rl, sqOf_tp, tpOf_tp, truD_ls, truD_rl, truD_tp, truD_bl, truD_int, truD_non, cPure, cNew, cBagA, sPure, isNon, flatD, tyD,
    cut_from1, cut_init, atI_0, atI_1, atI_2, atI_last, List.map_cons, List.map_nil, List.cons_append, List.nil_append, List.replicate, List.getElem?_cons_zero, List.getElem?_cons_succ, List.getElem?_nil, List.set_cons_zero, List.set_cons_succ, Option.some.injEq, exists_eq_left', exists_eq_left, Option.some_or, Option.none_or, Option.or_some, List.length_cons, List.length_nil, List.length_map, Nat.sub_zero, Nat.reduceSub, Nat.reduceAdd, Nat.reduceLeDiff, List.isEmpty_cons, List.isEmpty_nil, true_and, and_true, if_true, if_false, reduceIte, Bool.not_true, Bool.not_false, Bool.false_eq_true, reduceCtorEq, List.forall_mem_cons, List.forall_mem_nil, implies_true, List.mem_singleton, forall_eq, decide_eq_true_eq, Bool.not_eq_true', decide_eq_false_iff_not, okM0_iff, List.take_zero, gr_str_iff, gr_int_iff, gr_bl_iff, gr_non_iff, gr_lss_iff, gr_ls0_iff, sqOf_1, lsOf_1, lsOwn_1, ixN_30, ixN_31, ixN_32, setIx_iff, setIx_iff', D.cel.injEq, not_true_eq_false, not_false_eq_true, h1]
  unfold stackOf at k
  rw [lsOwn_cel hM]
  cases c : dotty (lastS p) with
  | true =>
    rw [c] at k
    refine ⟨by decide, by decide, by decide, ?_⟩
    have e : (push [] (segs p)).map D.str ++ [D.str []] = (push [] (segs p) ++ [[]]).map .str := by rw [List.map_append]; rfl
    show ((push [] (segs p)).map D.str).length + 1 ≤ _ ∧ Gr (D.ls ((push [] (segs p)).map D.str ++ [D.str []])) ∧ K0 (D.ls ((push [] (segs p)).map D.str ++ [D.str []])) []
    rw [e]
    exact ⟨by simp; omega, gr_ls_strs _, k⟩
  | false =>
    rw [c] at k
    refine ⟨by decide, by decide, by decide, ?_⟩
    show ((push [] (segs p)).map D.str).length + 0 ≤ _ ∧ Gr (D.ls ((push [] (segs p)).map D.str ++ [])) ∧ K0 (D.ls ((push [] (segs p)).map D.str ++ [])) []
    rw [List.append_nil]
    exact ⟨by simp; omega, gr_ls_strs _, k⟩
/-! ### the law's cleaned -/
theorem pre1_take (c : Nat) (l : Tx) : [c].isPrefixOf l = decide (l.take 1 = [c]) := by
  cases l with
  | nil => rfl
  | cons a r =>
    by_cases h : a = c
    · subst h; simp [List.isPrefixOf]
    · have h2 : c ≠ a := fun z => h z.symm
      simp [List.isPrefixOf, h, h2]
theorem pre2_take (c d : Nat) (l : Tx) : [c, d].isPrefixOf l = decide (l.take 2 = [c, d]) := by
  match l with
  | [] => rfl
  | [a] => simp [List.isPrefixOf]
  | a :: b :: r =>
    by_cases h : a = c
    · subst h
      by_cases h' : b = d
      · subst h'; simp [List.isPrefixOf]
      · have h2 : d ≠ b := fun z => h' z.symm
        simp [List.isPrefixOf, h', h2]
    · have h2 : c ≠ a := fun z => h z.symm
      simp [List.isPrefixOf, h, h2]
def sp_law_cleaned : DSpec := fun ds M K _ => ∃ (p : Tx) (b : Bool), ds = [.str p, .bl b] ∧ M = [] ∧ p.length ≤ 1000 ∧ K (.str (cleanedP p b)) []
def rd_law_cleaned : DS :=
  (dSeq (dIfS (qTru (dOp (rEqD' true) (dSl (dVar 0) dNo (dPart (dC (.int 1)))) (dC (.str [47]))))
    (dRet (dVar 0))
    dNext)
    (dSeq (dSet 2 (dOp rAddD (dC (.str [47])) (dM mJoin (dC (.str [47])) (aCons (dFn (cPure sp_law_stack) [] (aCons (dVar 0) aNil)) aNil))))
    (dRet (dIf (qAnd (qNot (qTru (dVar 1))) (qTru (dOp (rEqD' false) (dSl (dVar 2) dNo (dPart (dC (.int 2)))) (dC (.str [47, 47]))))) (dOp rAddD (dC (.str [47, 46])) (dVar 2)) (dVar 2)))))
theorem cut_to1 {α : Type} (l : List α) : cut l none (some 1) = l.take 1 := cut_to l 1
theorem cut_to2 {α : Type} (l : List α) : cut l none (some 2) = l.take 2 := cut_to l 2
theorem sem_law_cleaned (ds : List D) (M : MM) (K0 : Kd) (R0 : Kx) (h : sp_law_cleaned ds M K0 R0) : rd_law_cleaned (endG M.length K0 R0) (startG 3 ds) M := by
  obtain ⟨p, b, rfl, rfl, hp, k⟩ := h
  have hw := wt_stackOf p
  have hj := jn_wt (stackOf p)
  have hw2 : ((stackOf p).map List.length).sum + (stackOf p).length = wt (stackOf p) := rfl
  unfold rd_law_cleaned
  refine seq_g fun N hN => ?_
  simp only [dSeq, dNext, dRet, dRetN, dDrop, dSet, dIfS, dBrk, dCnt, dPar, dAug, dSetIx, dFor, dUnp, dVar, dC, dOp, dSl, dSlC, dPart, dNo, dTup, dLst, dLstC, dIf, dNot, dAnd, dOr, rNegD, dCall, dM, dM0, dApp, dFrz, dFz, dLc, dFn, dFn0, dFnK, aCons, aNil,
    qTru, qNot, qAnd, qOr, qYes, iLst, iTp, iStr', iR1, iR2, Tgt.d, setAll, wipeG, rAddD, rSubD, rMulD, rModD, rFdivD, rPowD, rOrdD, rIAddD, rIsN', rIxD, rSlD, rLen, rAbs, rMax2, rMin2, rInt1, rOrd, rListOf, rListOfC, rTupleOf, rIsiD,
    mSplit, mPart, mJoin, mStarts, mEnds, startG, endG, endN, endW, eqS_iff, eqI_iff, eqB_iff, eqL_iff, lsOwn_ls, lsOf_ls, lsOf_rl, sqOf_ls, sqOf_rl, sqOf_tp, tpOf_tp, truD_ls, truD_rl, truD_tp, truD_bl, truD_int, truD_non, cPure, cNew, cBagA, sPure, isNon, flatD, tyD,
    cut_from1, cut_init, atI_0, atI_1, atI_2, atI_last, List.map_cons, List.map_nil, List.cons_append, List.nil_append, List.replicate, List.getElem?_cons_zero, List.getElem?_cons_succ, List.getElem?_nil, List.set_cons_zero, List.set_cons_succ, Option.some.injEq, exists_eq_left', exists_eq_left, Option.some_or, Option.none_or, Option.or_some, List.length_cons, List.length_nil, List.length_map, Nat.sub_zero, Nat.reduceSub, Nat.reduceAdd, Nat.reduceLeDiff, List.isEmpty_cons, List.isEmpty_nil, true_and, and_true, if_true, if_false, reduceIte, Bool.not_true, Bool.not_false, Bool.false_eq_true, reduceCtorEq, List.forall_mem_cons, List.forall_mem_nil, implies_true, List.mem_singleton, forall_eq, decide_eq_true_eq, Bool.not_eq_true', decide_eq_false_iff_not, okM0_iff, List.take_zero, gr_str_iff, gr_int_iff, gr_bl_iff, gr_non_iff, gr_lss_iff, gr_ls0_iff, sqOf_1, lsOf_1, lsOwn_1, ixN_30, ixN_31, ixN_32, setIx_iff, setIx_iff', D.cel.injEq, not_true_eq_false, not_false_eq_true, cut_to1]
  refine ⟨by omega, ?_⟩
  unfold cleanedP written at k
  rw [pre1_take, pre2_take] at k
  by_cases c : p.take 1 = [47]
  · rw [if_neg (fun z => z c), hN]
    rw [if_pos (decide_eq_true c)] at k
    refine seq_g fun N hN => ?_
    simp only [dSeq, dNext, dRet, dRetN, dDrop, dSet, dIfS, dBrk, dCnt, dPar, dAug, dSetIx, dFor, dUnp, dVar, dC, dOp, dSl, dSlC, dPart, dNo, dTup, dLst, dLstC, dIf, dNot, dAnd, dOr, rNegD, dCall, dM, dM0, dApp, dFrz, dFz, dLc, dFn, dFn0, dFnK, aCons, aNil,
    qTru, qNot, qAnd, qOr, qYes, iLst, iTp, iStr', iR1, iR2, Tgt.d, setAll, wipeG, rAddD, rSubD, rMulD, rModD, rFdivD, rPowD, rOrdD, rIAddD, rIsN', rIxD, rSlD, rLen, rAbs, rMax2, rMin2, rInt1, rOrd, rListOf, rListOfC, rTupleOf, rIsiD,
    mSplit, mPart, mJoin, mStarts, mEnds, startG, endG, endN, endW, eqS_iff, eqI_iff, eqB_iff, eqL_iff, lsOwn_ls, lsOf_ls, lsOf_rl, sqOf_ls, sqOf_rl, sqOf_tp, tpOf_tp, truD_ls, truD_rl, truD_tp, truD_bl, truD_int, truD_non, cPure, cNew, cBagA, sPure, isNon, flatD, tyD,
    cut_from1, cut_init, atI_0, atI_1, atI_2, atI_last, List.map_cons, List.map_nil, List.cons_append, List.nil_append, List.replicate, List.getElem?_cons_zero, List.getElem?_cons_succ, List.getElem?_nil, List.set_cons_zero, List.set_cons_succ, Option.some.injEq, exists_eq_left', exists_eq_left, Option.some_or, Option.none_or, Option.or_some, List.length_cons, List.length_nil, List.length_map, Nat.sub_zero, Nat.reduceSub, Nat.reduceAdd, Nat.reduceLeDiff, List.isEmpty_cons, List.isEmpty_nil, true_and, and_true, if_true, if_false, reduceIte, Bool.not_true, Bool.not_false, Bool.false_eq_true, reduceCtorEq, List.forall_mem_cons, List.forall_mem_nil, implies_true, List.mem_singleton, forall_eq, decide_eq_true_eq, Bool.not_eq_true', decide_eq_false_iff_not, okM0_iff, List.take_zero, gr_str_iff, gr_int_iff, gr_bl_iff, gr_non_iff, gr_lss_iff, gr_ls0_iff, sqOf_1, lsOf_1, lsOwn_1, ixN_30, ixN_31, ixN_32, setIx_iff, setIx_iff', D.cel.injEq, not_true_eq_false, not_false_eq_true]
    refine ⟨p, rfl, rfl, hp, rfl, stackOf p, rfl, ?_, by omega, ?_⟩
    · show ((stackOf p).map List.length).sum + (stackOf p).length * 1 ≤ 16777216
      omega
    rw [hN]
    simp only [dSeq, dNext, dRet, dRetN, dDrop, dSet, dIfS, dBrk, dCnt, dPar, dAug, dSetIx, dFor, dUnp, dVar, dC, dOp, dSl, dSlC, dPart, dNo, dTup, dLst, dLstC, dIf, dNot, dAnd, dOr, rNegD, dCall, dM, dM0, dApp, dFrz, dFz, dLc, dFn, dFn0, dFnK, aCons, aNil,
    qTru, qNot, qAnd, qOr, qYes, iLst, iTp, iStr', iR1, iR2, Tgt.d, setAll, wipeG, rAddD, rSubD, rMulD, rModD, rFdivD, rPowD, rOrdD, rIAddD, rIsN', rIxD, rSlD, rLen, rAbs, rMax2, rMin2, rInt1, rOrd, rListOf, rListOfC, rTupleOf, rIsiD,
    mSplit, mPart, mJoin, mStarts, mEnds, startG, endG, endN, endW, eqS_iff, eqI_iff, eqB_iff, eqL_iff, lsOwn_ls, lsOf_ls, lsOf_rl, sqOf_ls, sqOf_rl, sqOf_tp, tpOf_tp, truD_ls, truD_rl, truD_tp, truD_bl, truD_int, truD_non, cPure, cNew, cBagA, sPure, isNon, flatD, tyD,
    cut_from1, cut_init, atI_0, atI_1, atI_2, atI_last, List.map_cons, List.map_nil, List.cons_append, List.nil_append, List.replicate, List.getElem?_cons_zero, List.getElem?_cons_succ, List.getElem?_nil, List.set_cons_zero, List.set_cons_succ, Option.some.injEq, exists_eq_left', exists_eq_left, Option.some_or, Option.none_or, Option.or_some, List.length_cons, List.length_nil, List.length_map, Nat.sub_zero, Nat.reduceSub, Nat.reduceAdd, Nat.reduceLeDiff, List.isEmpty_cons, List.isEmpty_nil, true_and, and_true, if_true, if_false, reduceIte, Bool.not_true, Bool.not_false, Bool.false_eq_true, reduceCtorEq, List.forall_mem_cons, List.forall_mem_nil, implies_true, List.mem_singleton, forall_eq, decide_eq_true_eq, Bool.not_eq_true', decide_eq_false_iff_not, okM0_iff, List.take_zero, gr_str_iff, gr_int_iff, gr_bl_iff, gr_non_iff, gr_lss_iff, gr_ls0_iff, sqOf_1, lsOf_1, lsOwn_1, ixN_30, ixN_31, ixN_32, setIx_iff, setIx_iff', D.cel.injEq, not_true_eq_false, not_false_eq_true, cut_to2]
    cases b with
    | true => exact k
    | false =>
      simp only [dSeq, dNext, dRet, dRetN, dDrop, dSet, dIfS, dBrk, dCnt, dPar, dAug, dSetIx, dFor, dUnp, dVar, dC, dOp, dSl, dSlC, dPart, dNo, dTup, dLst, dLstC, dIf, dNot, dAnd, dOr, rNegD, dCall, dM, dM0, dApp, dFrz, dFz, dLc, dFn, dFn0, dFnK, aCons, aNil,
    qTru, qNot, qAnd, qOr, qYes, iLst, iTp, iStr', iR1, iR2, Tgt.d, setAll, wipeG, rAddD, rSubD, rMulD, rModD, rFdivD, rPowD, rOrdD, rIAddD, rIsN', rIxD, rSlD, rLen, rAbs, rMax2, rMin2, rInt1, rOrd, rListOf, rListOfC, rTupleOf, rIsiD,
    mSplit, mPart, mJoin, mStarts, mEnds, startG, endG, endN, endW, eqS_iff, eqI_iff, eqB_iff, eqL_iff, lsOwn_ls, lsOf_ls, lsOf_rl, sqOf_ls, sqOf_rl, sqOf_tp, tpOf_tp, truD_ls, truD_rl, truD_tp, truD_bl, truD_int, truD_non, cPure, cNew, cBagA, sPure, isNon, flatD, tyD,
    cut_from1, cut_init, atI_0, atI_1, atI_2, atI_last, List.map_cons, List.map_nil, List.cons_append, List.nil_append, List.replicate, List.getElem?_cons_zero, List.getElem?_cons_succ, List.getElem?_nil, List.set_cons_zero, List.set_cons_succ, Option.some.injEq, exists_eq_left', exists_eq_left, Option.some_or, Option.none_or, Option.or_some, List.length_cons, List.length_nil, List.length_map, Nat.sub_zero, Nat.reduceSub, Nat.reduceAdd, Nat.reduceLeDiff, List.isEmpty_cons, List.isEmpty_nil, true_and, and_true, if_true, if_false, reduceIte, Bool.not_true, Bool.not_false, Bool.false_eq_true, reduceCtorEq, List.forall_mem_cons, List.forall_mem_nil, implies_true, List.mem_singleton, forall_eq, decide_eq_true_eq, Bool.not_eq_true', decide_eq_false_iff_not, okM0_iff, List.take_zero, gr_str_iff, gr_int_iff, gr_bl_iff, gr_non_iff, gr_lss_iff, gr_ls0_iff, sqOf_1, lsOf_1, lsOwn_1, ixN_30, ixN_31, ixN_32, setIx_iff, setIx_iff', D.cel.injEq, not_true_eq_false, not_false_eq_true]
      refine ⟨by omega, ?_⟩
      by_cases c2 : (47 :: jn [47] (stackOf p)).take 2 = [47, 47]
      · rw [if_pos c2]
        rw [decide_eq_true c2] at k
        exact ⟨by omega, k⟩
      · rw [if_neg c2]
        rw [decide_eq_false c2] at k
        exact k
  · rw [if_pos c]
    rw [if_neg (by simpa using c)] at k
    exact k
/-! ### the plain law: cleaned twice is cleaned once -/
theorem spC_jn (c : Nat) : ∀ (a : Tx) (r : List Tx), (∀ s ∈ a :: r, c ∉ s) → spC c (jn [c] (a :: r)) = a :: r
  | a, [], h => by
    have ha : c ∉ a := h a List.mem_cons_self
    show spC c a = [a]
    clear h
    induction a with
    | nil => rfl
    | cons x t ih =>
      have e := ih fun z => ha (List.mem_cons_of_mem _ z)
      exact spC_miss (fun z => ha (by rw [z]; exact List.mem_cons_self)) e
  | a, b :: r, h => by
    have ha : c ∉ a := h a List.mem_cons_self
    have ih := spC_jn c b r fun s hs => h s (List.mem_cons_of_mem _ hs)
    show spC c (a ++ [c] ++ jn [c] (b :: r)) = _
    clear h
    induction a with
    | nil => exact (spC_hit _ rfl).trans (congrArg (List.cons []) ih)
    | cons x t ih2 =>
      have e := ih2 fun z => ha (List.mem_cons_of_mem _ z)
      exact spC_miss (fun z => ha (by rw [z]; exact List.mem_cons_self)) e
theorem spC_no (c : Nat) : ∀ (l : Tx) (s : Tx), s ∈ spC c l → c ∉ s
  | [], s, h => by
    have e : s = [] := by simpa [spC] using h
    rw [e]
    exact List.not_mem_nil
  | x :: r, s, h => by
    by_cases hx : x = c
    · rw [spC_hit r hx] at h
      rcases List.mem_cons.mp h with h | h
      · rw [h]; exact List.not_mem_nil
      · exact spC_no c r s h
    · cases e : spC c r with
      | nil => exact absurd e (spC_ne c r)
      | cons a b =>
        rw [spC_miss hx e] at h
        rcases List.mem_cons.mp h with h | h
        · rw [h]
          intro z
          rcases List.mem_cons.mp z with z | z
          · exact hx z.symm
          · exact spC_no c r a (by rw [e]; exact List.mem_cons_self) z
        · exact spC_no c r s (by rw [e]; exact List.mem_cons_of_mem _ h)
/-- no dots, no slash -/
def Fine (s : Tx) : Prop := 47 ∉ s ∧ s ≠ [46] ∧ s ≠ [46, 46]
theorem fine_pstep {acc : List Tx} {s : Tx} (h : ∀ t ∈ acc, Fine t) (hs : 47 ∉ s) : ∀ t ∈ pstep acc s, Fine t := by
  unfold pstep
  intro t ht
  split at ht
  · exact h t (List.mem_of_mem_take (by rwa [List.dropLast_eq_take] at ht))
  · split at ht
    · exact h t ht
    · rcases List.mem_append.mp ht with h2 | h2
      · exact h t h2
      · rw [List.mem_singleton.mp h2]
        exact ⟨hs, by assumption, by assumption⟩
theorem fine_push : ∀ (rows acc : List Tx), (∀ t ∈ acc, Fine t) → (∀ s ∈ rows, 47 ∉ s) → ∀ t ∈ push acc rows, Fine t
  | [], acc, h, _ => h
  | s :: r, acc, h, hs => fine_push r (pstep acc s) (fine_pstep h (hs s List.mem_cons_self)) fun t ht => hs t (List.mem_cons_of_mem _ ht)
theorem fine_stack (p : Tx) : ∀ t ∈ stackOf p, Fine t := by
  have h := fine_push (segs p) [] (fun t ht => nomatch ht) fun s hs => spC_no 47 _ s hs
  unfold stackOf
  split
  · intro t ht
    rcases List.mem_append.mp ht with h2 | h2
    · exact h t h2
    · rw [List.mem_singleton.mp h2]
      exact ⟨List.not_mem_nil, by decide, by decide⟩
  · exact h
theorem push_app (acc a b : List Tx) : push acc (a ++ b) = push (push acc a) b := List.foldl_append
theorem push_fine : ∀ (rows acc : List Tx), (∀ s ∈ rows, Fine s) → push acc rows = acc ++ rows
  | [], acc, _ => (List.append_nil _).symm
  | s :: r, acc, h => by
    obtain ⟨_, h1, h2⟩ := h s List.mem_cons_self
    have e : pstep acc s = acc ++ [s] := by unfold pstep; rw [if_neg h2, if_neg h1]
    show push (pstep acc s) r = _
    rw [e, push_fine r _ fun t ht => h t (List.mem_cons_of_mem _ ht), List.append_assoc]
    rfl
theorem stack_ne (p : Tx) : stackOf p ≠ [] := by
  unfold stackOf
  cases c : dotty (lastS p) with
  | true => simp
  | false =>
    have hl : segs p ≠ [] := spC_ne 47 _
    have e : segs p = (segs p).dropLast ++ [lastS p] := (List.dropLast_concat_getLast hl).symm
    have hd : lastS p ≠ [46] ∧ lastS p ≠ [46, 46] := by
      unfold dotty at c
      simpa using c
    rw [if_neg (by decide), e, push_app]
    show pstep _ (lastS p) ≠ []
    unfold pstep
    rw [if_neg hd.2, if_neg hd.1]
    simp
theorem dotty_fine {s : Tx} (h : Fine s) : dotty s = false := by
  unfold dotty
  simp [h.2.1, h.2.2]
/-- what a road of fine rows is cut into -/
theorem stack_road {l : List Tx} (hn : l ≠ []) (h : ∀ s ∈ l, Fine s) : stackOf (47 :: jn [47] l) = l := by
  have e : segs (47 :: jn [47] l) = l := by
    cases l with
    | nil => exact absurd rfl hn
    | cons a r => exact spC_jn 47 a r fun s hs => (h s hs).1
  have h1 : push [] l = l := push_fine l [] h
  have h2 : dotty (lastS (47 :: jn [47] l)) = false := by
    apply dotty_fine
    apply h
    have : lastS (47 :: jn [47] l) ∈ segs (47 :: jn [47] l) := List.getLast_mem _
    rwa [e] at this
  unfold stackOf
  rw [h2, if_neg (by decide), e, h1]
theorem stack_dotted {l : List Tx} (hn : l ≠ []) (h : ∀ s ∈ l, Fine s) : stackOf (47 :: 46 :: 47 :: jn [47] l) = l := by
  have e : segs (47 :: 46 :: 47 :: jn [47] l) = [46] :: l := by
    cases l with
    | nil => exact absurd rfl hn
    | cons a r =>
      have q : spC 47 (47 :: jn [47] (a :: r)) = [] :: a :: r := by rw [spC_hit _ rfl, spC_jn 47 a r fun s hs => (h s hs).1]
      exact spC_miss (by decide) q
  have h1 : push [] ([46] :: l) = l := push_fine l [] h
  have h2 : dotty (lastS (47 :: 46 :: 47 :: jn [47] l)) = false := by
    apply dotty_fine
    have hl : lastS (47 :: 46 :: 47 :: jn [47] l) = l.getLast hn := by
      unfold lastS
      simp only [e]
      exact List.getLast_cons hn
    rw [hl]
    exact h _ (List.getLast_mem _)
  unfold stackOf
  rw [h2, if_neg (by decide), e, h1]
theorem cleaned_twice (p : Tx) (b : Bool) : cleanedP (cleanedP p b) b = cleanedP p b := by
  have hf := fine_stack p
  have hn := stack_ne p
  unfold cleanedP
  cases c : [47].isPrefixOf p with
  | false =>
    show (if [47].isPrefixOf p = true then _ else p) = p
    rw [c]
    rfl
  | true =>
    rw [if_pos rfl]
    have hw : [47].isPrefixOf (written (stackOf p) b) = true := by
      unfold written
      split <;> rfl
    have hs : stackOf (written (stackOf p) b) = stackOf p := by
      unfold written
      split
      · exact stack_road hn hf
      · exact stack_dotted hn hf
    rw [if_pos hw, hs]
end L3

namespace L3
open PySem PySem.Spec PyProof.Rows L2 Evl
open Classical

/-! ### the law -/
def gD_p_cleaned_Khas_authority : List D → List D → List D := fun ds es => ds ++ es
abbrev dv_p_cleaned_D1 : List D := [.bl true]
def lb0_law : DS :=
  (dSeq (dSet 9 (dFnK (cPure sp_p_cleaned) gD_p_cleaned_Khas_authority 1 1 (aCons (dVar 4) aNil) (aCons (dVar 7) aNil)))
    (dIfS (qOr (qTru (dOp (rEqD' true) (dVar 9) (dFn (cPure sp_law_cleaned) [] (aCons (dVar 4) (aCons (dVar 7) aNil))))) (qTru (dOp (rEqD' true) (dFn (cPure sp_law_cleaned) [] (aCons (dVar 9) (aCons (dVar 7) aNil))) (dVar 9))))
    (dRet (dC (.bl false)))
    dNext))
def lb1_law : DS :=
  (dSeq (dSet 4 (dFn (cBagA 0 sp_law_rooted) [] (aCons (dVar 2) (aCons (dC (.int 7)) (aCons (dOp (rEqD' false) (dFn (cBagA 0 sp_law_take) [] (aCons (dVar 2) (aCons (dC (.int 2)) aNil))) (dC (.int 0))) aNil)))))
    (dSeq (dPar 5 6 (aCons (dFn (cPure sp_law_stack) [] (aCons (dVar 4) aNil)) (aCons (dFn (cNew sp_p_stack) [] (aCons (dVar 4) aNil)) aNil)))
    (dSeq (dIfS (qOr (qNot (qTru (dCall rIsiD (aCons (dVar 6) (aCons (dC (.ty "list")) aNil))))) (qTru (dOp (rEqD' true) (dVar 6) (dVar 5))))
    (dRet (dC (.bl false)))
    dNext)
    (dSeq (dDrop (dApp (dVar 6) (dC (.str [120]))))
    (dSeq (dIfS (qOr (qTru (dOp (rEqD' true) (dFn (cPure (sPure sp_p_stack)) [] (aCons (dVar 4) aNil)) (dVar 5))) (qTru (dOp (rEqD' true) (dFn (cPure sp_p_cleaned) dv_p_cleaned_D1 (aCons (dVar 4) aNil)) (dFn (cPure sp_law_cleaned) [] (aCons (dVar 4) (aCons (dC (.bl true)) aNil))))))
    (dRet (dC (.bl false)))
    dNext)
    (dSeq (dFor (iTp (dTup (aCons (dC (.bl true)) (aCons (dC (.bl false)) aNil)))) (Tgt.nm 7) lb0_law)
    (dSeq (dSet 8 (dSl (dVar 4) (dPart (dC (.int 1))) dNo))
    (dIfS (qAnd (qTru (dOp (rEqD' true) (dSl (dVar 8) dNo (dPart (dC (.int 1)))) (dC (.str [47])))) (qTru (dOp (rEqD' true) (dFn (cPure sp_p_cleaned) dv_p_cleaned_D1 (aCons (dVar 8) aNil)) (dVar 8))))
    (dRet (dC (.bl false)))
    dNext))))))))
def lb2_law : DS :=
  (dSeq (dSet 2 (dFn (cNew sp_law_bag) [] (aCons (dVar 0) (aCons (dVar 1) aNil))))
    (dFor (iR1 (aCons (dC (.int 10)) aNil)) (Tgt.nm 3) lb1_law))
def rd_law : DS :=
  (dSeq (dFor (iR1 (aCons (dCall rMax2 (aCons (dC (.int 2)) (aCons (dCall rMin2 (aCons (dC (.int 5)) (aCons (dCall rLen (aCons (dVar 0) aNil)) aNil))) aNil))) aNil)) (Tgt.nm 1) lb2_law)
    (dRet (dAnd (dOp (rEqD' false) (dFn (cPure sp_p_cleaned) dv_p_cleaned_D1 (aCons (dC (.str [])) aNil)) (dC (.str []))) (dAnd (dOp (rEqD' false) (dFn (cPure (sPure sp_p_stack)) [] (aCons (dC (.str [47])) aNil)) (dLst (aCons (dC (.str [])) aNil))) (dAnd (dOp (rEqD' false) (dFn (cPure (sPure sp_p_stack)) [] (aCons (dC (.str [47, 46, 46])) aNil)) (dLst (aCons (dC (.str [])) aNil))) (dOp (rEqD' false) (dFn (cPure (sPure sp_p_stack)) [] (aCons (dC (.str [47, 47])) aNil)) (dLst (aCons (dC (.str [])) (aCons (dC (.str [])) aNil)))))))))
theorem len_written (p : Tx) (b : Bool) (h : p.length ≤ 200) : (cleanedP p b).length ≤ 300 := by
  have h1 := wt_stackOf p
  have h2 := jn_wt (stackOf p)
  unfold cleanedP written
  split
  · split <;> simp only [List.length_cons] <;> omega
  · omega
theorem lb0_sem {chk : MM → Prop} (hc : ∀ M, chk M) {E : DEnds} {M : MM} {x0 x1 x2 x3 x5 x6 : D} {p : Tx} (hp : p.length ≤ 200) {o7 o8 o9 : Option D}
    (q : ∀ o7 o9, E.nx [some x0, some x1, some x2, some x3, some (.str p), some x5, some x6, o7, o8, o9] M) :
    forD chk (Tgt.nm 7) lb0_law E [.bl true, .bl false] [some x0, some x1, some x2, some x3, some (.str p), some x5, some x6, o7, o8, o9] M := by
  refine for_ind (P := fun l Γ M' => (∀ d ∈ l, ∃ b, d = .bl b) ∧ M' = M ∧ ∃ o7 o9, Γ = [some x0, some x1, some x2, some x3, some (.str p), some x5, some x6, o7, o8, o9]) ?_ ?_ _ _ _ ⟨?_, rfl, o7, o9, rfl⟩
  · rintro Γ M' ⟨_, rfl, o7, o9, rfl⟩
    exact ⟨hc _, q o7 o9⟩
  · rintro d r Γ M' N hN ⟨hd, rfl, o7, o9, rfl⟩
    obtain ⟨b, rfl⟩ := hd d List.mem_cons_self
    have go := fun o9 => hN _ M' ⟨fun e he => hd e (List.mem_cons_of_mem _ he), rfl, some (.bl b), o9, rfl⟩
    refine ⟨hc _, ?_⟩
    unfold lb0_law
    simp only [Tgt.d, List.set_cons_succ, List.set_cons_zero]
    refine seq_g fun N' hN' => ?_
    simp only [dSeq, dNext, dRet, dRetN, dDrop, dSet, dIfS, dBrk, dCnt, dPar, dAug, dSetIx, dFor, dUnp, dVar, dC, dOp, dSl, dSlC, dPart, dNo, dTup, dLst, dLstC, dIf, dNot, dAnd, dOr, rNegD, dCall, dM, dM0, dApp, dFrz, dFz, dLc, dFn, dFn0, dFnK, aCons, aNil,
    qTru, qNot, qAnd, qOr, qYes, iLst, iTp, iStr', iR1, iR2, Tgt.d, setAll, wipeG, rAddD, rSubD, rMulD, rModD, rFdivD, rPowD, rOrdD, rIAddD, rIsN', rIxD, rSlD, rLen, rAbs, rMax2, rMin2, rInt1, rOrd, rListOf, rListOfC, rTupleOf, rIsiD,
    mSplit, mPart, mJoin, mStarts, mEnds, startG, endG, endN, endW, eqS_iff, eqI_iff, eqB_iff, eqL_iff, lsOwn_ls, lsOf_ls, lsOf_rl, sqOf_ls, sqOf_rl, sqOf_tp, tpOf_tp, truD_ls, truD_rl, truD_tp, truD_bl, truD_int, truD_non, cPure, cNew, cBagA, sPure, isNon, flatD, tyD,
    cut_from1, cut_init, atI_0, atI_1, atI_2, atI_last, List.map_cons, List.map_nil, List.cons_append, List.nil_append, List.replicate, List.getElem?_cons_zero, List.getElem?_cons_succ, List.getElem?_nil, List.set_cons_zero, List.set_cons_succ, Option.some.injEq, exists_eq_left', exists_eq_left, Option.some_or, Option.none_or, Option.or_some, List.length_cons, List.length_nil, List.length_map, Nat.sub_zero, Nat.reduceSub, Nat.reduceAdd, Nat.reduceLeDiff, List.isEmpty_cons, List.isEmpty_nil, true_and, and_true, if_true, if_false, reduceIte, Bool.not_true, Bool.not_false, Bool.false_eq_true, reduceCtorEq, List.forall_mem_cons, List.forall_mem_nil, implies_true, List.mem_singleton, forall_eq, decide_eq_true_eq, Bool.not_eq_true', decide_eq_false_iff_not, okM0_iff, List.take_zero, gr_str_iff, gr_int_iff, gr_bl_iff, gr_non_iff, gr_lss_iff, gr_ls0_iff, sqOf_1, lsOf_1, lsOwn_1, ixN_30, ixN_31, ixN_32, setIx_iff, setIx_iff', D.cel.injEq, not_true_eq_false, not_false_eq_true, gD_p_cleaned_Khas_authority]
    have hl := len_written p b hp
    refine ⟨p, b, rfl, rfl, by omega, rfl, ?_⟩
    rw [hN']
    simp only [dSeq, dNext, dRet, dRetN, dDrop, dSet, dIfS, dBrk, dCnt, dPar, dAug, dSetIx, dFor, dUnp, dVar, dC, dOp, dSl, dSlC, dPart, dNo, dTup, dLst, dLstC, dIf, dNot, dAnd, dOr, rNegD, dCall, dM, dM0, dApp, dFrz, dFz, dLc, dFn, dFn0, dFnK, aCons, aNil,
    qTru, qNot, qAnd, qOr, qYes, iLst, iTp, iStr', iR1, iR2, Tgt.d, setAll, wipeG, rAddD, rSubD, rMulD, rModD, rFdivD, rPowD, rOrdD, rIAddD, rIsN', rIxD, rSlD, rLen, rAbs, rMax2, rMin2, rInt1, rOrd, rListOf, rListOfC, rTupleOf, rIsiD,
    mSplit, mPart, mJoin, mStarts, mEnds, startG, endG, endN, endW, eqS_iff, eqI_iff, eqB_iff, eqL_iff, lsOwn_ls, lsOf_ls, lsOf_rl, sqOf_ls, sqOf_rl, sqOf_tp, tpOf_tp, truD_ls, truD_rl, truD_tp, truD_bl, truD_int, truD_non, cPure, cNew, cBagA, sPure, isNon, flatD, tyD,
    cut_from1, cut_init, atI_0, atI_1, atI_2, atI_last, List.map_cons, List.map_nil, List.cons_append, List.nil_append, List.replicate, List.getElem?_cons_zero, List.getElem?_cons_succ, List.getElem?_nil, List.set_cons_zero, List.set_cons_succ, Option.some.injEq, exists_eq_left', exists_eq_left, Option.some_or, Option.none_or, Option.or_some, List.length_cons, List.length_nil, List.length_map, Nat.sub_zero, Nat.reduceSub, Nat.reduceAdd, Nat.reduceLeDiff, List.isEmpty_cons, List.isEmpty_nil, true_and, and_true, if_true, if_false, reduceIte, Bool.not_true, Bool.not_false, Bool.false_eq_true, reduceCtorEq, List.forall_mem_cons, List.forall_mem_nil, implies_true, List.mem_singleton, forall_eq, decide_eq_true_eq, Bool.not_eq_true', decide_eq_false_iff_not, okM0_iff, List.take_zero, gr_str_iff, gr_int_iff, gr_bl_iff, gr_non_iff, gr_lss_iff, gr_ls0_iff, sqOf_1, lsOf_1, lsOwn_1, ixN_30, ixN_31, ixN_32, setIx_iff, setIx_iff', D.cel.injEq, not_true_eq_false, not_false_eq_true]
    refine ⟨p, b, rfl, rfl, by omega, rfl, ?_⟩
    simp only [dSeq, dNext, dRet, dRetN, dDrop, dSet, dIfS, dBrk, dCnt, dPar, dAug, dSetIx, dFor, dUnp, dVar, dC, dOp, dSl, dSlC, dPart, dNo, dTup, dLst, dLstC, dIf, dNot, dAnd, dOr, rNegD, dCall, dM, dM0, dApp, dFrz, dFz, dLc, dFn, dFn0, dFnK, aCons, aNil,
    qTru, qNot, qAnd, qOr, qYes, iLst, iTp, iStr', iR1, iR2, Tgt.d, setAll, wipeG, rAddD, rSubD, rMulD, rModD, rFdivD, rPowD, rOrdD, rIAddD, rIsN', rIxD, rSlD, rLen, rAbs, rMax2, rMin2, rInt1, rOrd, rListOf, rListOfC, rTupleOf, rIsiD,
    mSplit, mPart, mJoin, mStarts, mEnds, startG, endG, endN, endW, eqS_iff, eqI_iff, eqB_iff, eqL_iff, lsOwn_ls, lsOf_ls, lsOf_rl, sqOf_ls, sqOf_rl, sqOf_tp, tpOf_tp, truD_ls, truD_rl, truD_tp, truD_bl, truD_int, truD_non, cPure, cNew, cBagA, sPure, isNon, flatD, tyD,
    cut_from1, cut_init, atI_0, atI_1, atI_2, atI_last, List.map_cons, List.map_nil, List.cons_append, List.nil_append, List.replicate, List.getElem?_cons_zero, List.getElem?_cons_succ, List.getElem?_nil, List.set_cons_zero, List.set_cons_succ, Option.some.injEq, exists_eq_left', exists_eq_left, Option.some_or, Option.none_or, Option.or_some, List.length_cons, List.length_nil, List.length_map, Nat.sub_zero, Nat.reduceSub, Nat.reduceAdd, Nat.reduceLeDiff, List.isEmpty_cons, List.isEmpty_nil, true_and, and_true, if_true, if_false, reduceIte, Bool.not_true, Bool.not_false, Bool.false_eq_true, reduceCtorEq, List.forall_mem_cons, List.forall_mem_nil, implies_true, List.mem_singleton, forall_eq, decide_eq_true_eq, Bool.not_eq_true', decide_eq_false_iff_not, okM0_iff, List.take_zero, gr_str_iff, gr_int_iff, gr_bl_iff, gr_non_iff, gr_lss_iff, gr_ls0_iff, sqOf_1, lsOf_1, lsOwn_1, ixN_30, ixN_31, ixN_32, setIx_iff, setIx_iff', D.cel.injEq, not_true_eq_false, not_false_eq_true]
    refine ⟨cleanedP p b, b, rfl, rfl, by omega, rfl, ?_⟩
    simp only [dSeq, dNext, dRet, dRetN, dDrop, dSet, dIfS, dBrk, dCnt, dPar, dAug, dSetIx, dFor, dUnp, dVar, dC, dOp, dSl, dSlC, dPart, dNo, dTup, dLst, dLstC, dIf, dNot, dAnd, dOr, rNegD, dCall, dM, dM0, dApp, dFrz, dFz, dLc, dFn, dFn0, dFnK, aCons, aNil,
    qTru, qNot, qAnd, qOr, qYes, iLst, iTp, iStr', iR1, iR2, Tgt.d, setAll, wipeG, rAddD, rSubD, rMulD, rModD, rFdivD, rPowD, rOrdD, rIAddD, rIsN', rIxD, rSlD, rLen, rAbs, rMax2, rMin2, rInt1, rOrd, rListOf, rListOfC, rTupleOf, rIsiD,
    mSplit, mPart, mJoin, mStarts, mEnds, startG, endG, endN, endW, eqS_iff, eqI_iff, eqB_iff, eqL_iff, lsOwn_ls, lsOf_ls, lsOf_rl, sqOf_ls, sqOf_rl, sqOf_tp, tpOf_tp, truD_ls, truD_rl, truD_tp, truD_bl, truD_int, truD_non, cPure, cNew, cBagA, sPure, isNon, flatD, tyD,
    cut_from1, cut_init, atI_0, atI_1, atI_2, atI_last, List.map_cons, List.map_nil, List.cons_append, List.nil_append, List.replicate, List.getElem?_cons_zero, List.getElem?_cons_succ, List.getElem?_nil, List.set_cons_zero, List.set_cons_succ, Option.some.injEq, exists_eq_left', exists_eq_left, Option.some_or, Option.none_or, Option.or_some, List.length_cons, List.length_nil, List.length_map, Nat.sub_zero, Nat.reduceSub, Nat.reduceAdd, Nat.reduceLeDiff, List.isEmpty_cons, List.isEmpty_nil, true_and, and_true, if_true, if_false, reduceIte, Bool.not_true, Bool.not_false, Bool.false_eq_true, reduceCtorEq, List.forall_mem_cons, List.forall_mem_nil, implies_true, List.mem_singleton, forall_eq, decide_eq_true_eq, Bool.not_eq_true', decide_eq_false_iff_not, okM0_iff, List.take_zero, gr_str_iff, gr_int_iff, gr_bl_iff, gr_non_iff, gr_lss_iff, gr_ls0_iff, sqOf_1, lsOf_1, lsOwn_1, ixN_30, ixN_31, ixN_32, setIx_iff, setIx_iff', D.cel.injEq, not_true_eq_false, not_false_eq_true, cleaned_twice]
    exact go _
  · intro d hd
    rcases List.mem_cons.mp hd with h | h
    · exact ⟨true, h⟩
    · exact ⟨false, List.mem_singleton.mp h⟩

theorem lb1_sem {chk : MM → Prop} (hc : ∀ M, chk M) {E : DEnds} {x0 x1 : D} {k : Nat} (items : List D) (M : MM) (bg : List D) (n : Nat) (hM : M[k]? = some (.ls bg)) (hb : BagOk n bg) (hn : n + 9 * items.length ≤ 80000) (hi : ∀ d ∈ items, ∃ i : Int, d = .int i) {o3 o4 o5 o6 o7 o8 o9 : Option D}
    (q : ∀ M o3 o4 o5 o6 o7 o8 o9, E.nx [some x0, some x1, some (.cel k), o3, o4, o5, o6, o7, o8, o9] M) :
    forD chk (Tgt.nm 3) lb1_law E items [some x0, some x1, some (.cel k), o3, o4, o5, o6, o7, o8, o9] M := by
  refine for_ind (P := fun l Γ M => (∀ d ∈ l, ∃ i : Int, d = .int i) ∧ (∃ bg n, M[k]? = some (.ls bg) ∧ BagOk n bg ∧ n + 9 * l.length ≤ 80000) ∧ ∃ o3 o4 o5 o6 o7 o8 o9, Γ = [some x0, some x1, some (.cel k), o3, o4, o5, o6, o7, o8, o9]) ?_ ?_ _ _ _ ⟨hi, ⟨bg, n, hM, hb, hn⟩, o3, o4, o5, o6, o7, o8, o9, rfl⟩
  · rintro Γ M ⟨_, _, o3, o4, o5, o6, o7, o8, o9, rfl⟩
    exact ⟨hc _, q _ o3 o4 o5 o6 o7 o8 o9⟩
  · rintro d r Γ M N hN ⟨hd, ⟨bg, n, hM, hb, hn⟩, o3, o4, o5, o6, o7, o8, o9, rfl⟩
    obtain ⟨t, rfl⟩ := hd _ List.mem_cons_self
    have hn : n + 9 * (r.length + 1) ≤ 80000 := hn
    have go : ∀ M bg o4 o5 o6 o7 o8 o9, M[k]? = some (.ls bg) → BagOk (n + 9) bg → N [some x0, some x1, some (.cel k), some (.int t), o4, o5, o6, o7, o8, o9] M := fun M bg o4 o5 o6 o7 o8 o9 h1 h2 =>
      hN _ _ ⟨fun e he => hd e (List.mem_cons_of_mem _ he), ⟨bg, n + 9, h1, h2, by omega⟩, _, o4, o5, o6, o7, o8, o9, rfl⟩
    refine ⟨hc _, ?_⟩
    unfold lb1_law
    simp only [Tgt.d, List.set_cons_succ, List.set_cons_zero]
    refine seq_g fun N1 hN1 => ?_
    simp only [dSeq, dNext, dRet, dRetN, dDrop, dSet, dIfS, dBrk, dCnt, dPar, dAug, dSetIx, dFor, dUnp, dVar, dC, dOp, dSl, dSlC, dPart, dNo, dTup, dLst, dLstC, dIf, dNot, dAnd, dOr, rNegD, dCall, dM, dM0, dApp, dFrz, dFz, dLc, dFn, dFn0, dFnK, aCons, aNil,
    qTru, qNot, qAnd, qOr, qYes, iLst, iTp, iStr', iR1, iR2, Tgt.d, setAll, wipeG, rAddD, rSubD, rMulD, rModD, rFdivD, rPowD, rOrdD, rIAddD, rIsN', rIxD, rSlD, rLen, rAbs, rMax2, rMin2, rInt1, rOrd, rListOf, rListOfC, rTupleOf, rIsiD,
    mSplit, mPart, mJoin, mStarts, mEnds, startG, endG, endN, endW, eqS_iff, eqI_iff, eqB_iff, eqL_iff, lsOwn_ls, lsOf_ls, lsOf_rl, sqOf_ls, sqOf_rl, sqOf_tp, tpOf_tp, truD_ls, truD_rl, truD_tp, truD_bl, truD_int, truD_non, cPure, cNew, cBagA, sPure, isNon, flatD, tyD,
    cut_from1, cut_init, atI_0, atI_1, atI_2, atI_last, List.map_cons, List.map_nil, List.cons_append, List.nil_append, List.replicate, List.getElem?_cons_zero, List.getElem?_cons_succ, List.getElem?_nil, List.set_cons_zero, List.set_cons_succ, Option.some.injEq, exists_eq_left', exists_eq_left, Option.some_or, Option.none_or, Option.or_some, List.length_cons, List.length_nil, List.length_map, Nat.sub_zero, Nat.reduceSub, Nat.reduceAdd, Nat.reduceLeDiff, List.isEmpty_cons, List.isEmpty_nil, true_and, and_true, if_true, if_false, reduceIte, Bool.not_true, Bool.not_false, Bool.false_eq_true, reduceCtorEq, List.forall_mem_cons, List.forall_mem_nil, implies_true, List.mem_singleton, forall_eq, decide_eq_true_eq, Bool.not_eq_true', decide_eq_false_iff_not, okM0_iff, List.take_zero, gr_str_iff, gr_int_iff, gr_bl_iff, gr_non_iff, gr_lss_iff, gr_ls0_iff, sqOf_1, lsOf_1, lsOwn_1, ixN_30, ixN_31, ixN_32, setIx_iff, setIx_iff', D.cel.injEq, not_true_eq_false, not_false_eq_true]
    refine ⟨_, hM, bag_ok hb, by simp [Gr], bg, n, 2, by simp [unC], rfl, hb, by omega, by decide, by decide, fun x l' x0 x1 hb1 => ⟨_, rfl, bag_ok hb1, trivial, ?_⟩⟩
    simp only [dSeq, dNext, dRet, dRetN, dDrop, dSet, dIfS, dBrk, dCnt, dPar, dAug, dSetIx, dFor, dUnp, dVar, dC, dOp, dSl, dSlC, dPart, dNo, dTup, dLst, dLstC, dIf, dNot, dAnd, dOr, rNegD, dCall, dM, dM0, dApp, dFrz, dFz, dLc, dFn, dFn0, dFnK, aCons, aNil,
    qTru, qNot, qAnd, qOr, qYes, iLst, iTp, iStr', iR1, iR2, Tgt.d, setAll, wipeG, rAddD, rSubD, rMulD, rModD, rFdivD, rPowD, rOrdD, rIAddD, rIsN', rIxD, rSlD, rLen, rAbs, rMax2, rMin2, rInt1, rOrd, rListOf, rListOfC, rTupleOf, rIsiD,
    mSplit, mPart, mJoin, mStarts, mEnds, startG, endG, endN, endW, eqS_iff, eqI_iff, eqB_iff, eqL_iff, lsOwn_ls, lsOf_ls, lsOf_rl, sqOf_ls, sqOf_rl, sqOf_tp, tpOf_tp, truD_ls, truD_rl, truD_tp, truD_bl, truD_int, truD_non, cPure, cNew, cBagA, sPure, isNon, flatD, tyD,
    cut_from1, cut_init, atI_0, atI_1, atI_2, atI_last, List.map_cons, List.map_nil, List.cons_append, List.nil_append, List.replicate, List.getElem?_cons_zero, List.getElem?_cons_succ, List.getElem?_nil, List.set_cons_zero, List.set_cons_succ, Option.some.injEq, exists_eq_left', exists_eq_left, Option.some_or, Option.none_or, Option.or_some, List.length_cons, List.length_nil, List.length_map, Nat.sub_zero, Nat.reduceSub, Nat.reduceAdd, Nat.reduceLeDiff, List.isEmpty_cons, List.isEmpty_nil, true_and, and_true, if_true, if_false, reduceIte, Bool.not_true, Bool.not_false, Bool.false_eq_true, reduceCtorEq, List.forall_mem_cons, List.forall_mem_nil, implies_true, List.mem_singleton, forall_eq, decide_eq_true_eq, Bool.not_eq_true', decide_eq_false_iff_not, okM0_iff, List.take_zero, gr_str_iff, gr_int_iff, gr_bl_iff, gr_non_iff, gr_lss_iff, gr_ls0_iff, sqOf_1, lsOf_1, lsOwn_1, ixN_30, ixN_31, ixN_32, setIx_iff, setIx_iff', D.cel.injEq, not_true_eq_false, not_false_eq_true]
    refine ⟨_, get_set hM, bag_ok hb1, by simp [Gr], l', n + 1, 7, _, by simp [unC]; rfl, rfl, hb1, by omega, by decide, by decide, fun p l2 hp hb2 => ⟨_, rfl, bag_ok hb2, trivial, ?_⟩⟩
    have hM2 : ((M.set k (.ls l')).set k (.ls l2))[k]? = some (.ls l2) := get_set (get_set hM)
    generalize (M.set k (.ls l')).set k (.ls l2) = M2 at hM2 ⊢
    rw [hN1]
    refine seq_g fun N2 hN2 => ?_
    simp only [dSeq, dNext, dRet, dRetN, dDrop, dSet, dIfS, dBrk, dCnt, dPar, dAug, dSetIx, dFor, dUnp, dVar, dC, dOp, dSl, dSlC, dPart, dNo, dTup, dLst, dLstC, dIf, dNot, dAnd, dOr, rNegD, dCall, dM, dM0, dApp, dFrz, dFz, dLc, dFn, dFn0, dFnK, aCons, aNil,
    qTru, qNot, qAnd, qOr, qYes, iLst, iTp, iStr', iR1, iR2, Tgt.d, setAll, wipeG, rAddD, rSubD, rMulD, rModD, rFdivD, rPowD, rOrdD, rIAddD, rIsN', rIxD, rSlD, rLen, rAbs, rMax2, rMin2, rInt1, rOrd, rListOf, rListOfC, rTupleOf, rIsiD,
    mSplit, mPart, mJoin, mStarts, mEnds, startG, endG, endN, endW, eqS_iff, eqI_iff, eqB_iff, eqL_iff, lsOwn_ls, lsOf_ls, lsOf_rl, sqOf_ls, sqOf_rl, sqOf_tp, tpOf_tp, truD_ls, truD_rl, truD_tp, truD_bl, truD_int, truD_non, cPure, cNew, cBagA, sPure, isNon, flatD, tyD,
    cut_from1, cut_init, atI_0, atI_1, atI_2, atI_last, List.map_cons, List.map_nil, List.cons_append, List.nil_append, List.replicate, List.getElem?_cons_zero, List.getElem?_cons_succ, List.getElem?_nil, List.set_cons_zero, List.set_cons_succ, Option.some.injEq, exists_eq_left', exists_eq_left, Option.some_or, Option.none_or, Option.or_some, List.length_cons, List.length_nil, List.length_map, Nat.sub_zero, Nat.reduceSub, Nat.reduceAdd, Nat.reduceLeDiff, List.isEmpty_cons, List.isEmpty_nil, true_and, and_true, if_true, if_false, reduceIte, Bool.not_true, Bool.not_false, Bool.false_eq_true, reduceCtorEq, List.forall_mem_cons, List.forall_mem_nil, implies_true, List.mem_singleton, forall_eq, decide_eq_true_eq, Bool.not_eq_true', decide_eq_false_iff_not, okM0_iff, List.take_zero, gr_str_iff, gr_int_iff, gr_bl_iff, gr_non_iff, gr_lss_iff, gr_ls0_iff, sqOf_1, lsOf_1, lsOwn_1, ixN_30, ixN_31, ixN_32, setIx_iff, setIx_iff', D.cel.injEq, not_true_eq_false, not_false_eq_true]
    refine ⟨p, rfl, rfl, by omega, rfl, p, rfl, rfl, by omega, _, rfl, gr_strs _, rfl, ?_⟩
    rw [hN2]
    refine seq_g fun N3 hN3 => ?_
    simp only [dSeq, dNext, dRet, dRetN, dDrop, dSet, dIfS, dBrk, dCnt, dPar, dAug, dSetIx, dFor, dUnp, dVar, dC, dOp, dSl, dSlC, dPart, dNo, dTup, dLst, dLstC, dIf, dNot, dAnd, dOr, rNegD, dCall, dM, dM0, dApp, dFrz, dFz, dLc, dFn, dFn0, dFnK, aCons, aNil,
    qTru, qNot, qAnd, qOr, qYes, iLst, iTp, iStr', iR1, iR2, Tgt.d, setAll, wipeG, rAddD, rSubD, rMulD, rModD, rFdivD, rPowD, rOrdD, rIAddD, rIsN', rIxD, rSlD, rLen, rAbs, rMax2, rMin2, rInt1, rOrd, rListOf, rListOfC, rTupleOf, rIsiD,
    mSplit, mPart, mJoin, mStarts, mEnds, startG, endG, endN, endW, eqS_iff, eqI_iff, eqB_iff, eqL_iff, lsOwn_ls, lsOf_ls, lsOf_rl, sqOf_ls, sqOf_rl, sqOf_tp, tpOf_tp, truD_ls, truD_rl, truD_tp, truD_bl, truD_int, truD_non, cPure, cNew, cBagA, sPure, isNon, flatD, tyD,
    cut_from1, cut_init, atI_0, atI_1, atI_2, atI_last, List.map_cons, List.map_nil, List.cons_append, List.nil_append, List.replicate, List.getElem?_cons_zero, List.getElem?_cons_succ, List.getElem?_nil, List.set_cons_zero, List.set_cons_succ, Option.some.injEq, exists_eq_left', exists_eq_left, Option.some_or, Option.none_or, Option.or_some, List.length_cons, List.length_nil, List.length_map, Nat.sub_zero, Nat.reduceSub, Nat.reduceAdd, Nat.reduceLeDiff, List.isEmpty_cons, List.isEmpty_nil, true_and, and_true, if_true, if_false, reduceIte, Bool.not_true, Bool.not_false, Bool.false_eq_true, reduceCtorEq, List.forall_mem_cons, List.forall_mem_nil, implies_true, List.mem_singleton, forall_eq, decide_eq_true_eq, Bool.not_eq_true', decide_eq_false_iff_not, okM0_iff, List.take_zero, gr_str_iff, gr_int_iff, gr_bl_iff, gr_non_iff, gr_lss_iff, gr_ls0_iff, sqOf_1, lsOf_1, lsOwn_1, ixN_30, ixN_31, ixN_32, setIx_iff, setIx_iff', D.cel.injEq, not_true_eq_false, not_false_eq_true]
    refine ⟨"list", true, by rw [get_snoc], by rfl, ?_⟩
    rw [if_neg (by decide), eqC_iff get_snoc]
    simp only [dSeq, dNext, dRet, dRetN, dDrop, dSet, dIfS, dBrk, dCnt, dPar, dAug, dSetIx, dFor, dUnp, dVar, dC, dOp, dSl, dSlC, dPart, dNo, dTup, dLst, dLstC, dIf, dNot, dAnd, dOr, rNegD, dCall, dM, dM0, dApp, dFrz, dFz, dLc, dFn, dFn0, dFnK, aCons, aNil,
    qTru, qNot, qAnd, qOr, qYes, iLst, iTp, iStr', iR1, iR2, Tgt.d, setAll, wipeG, rAddD, rSubD, rMulD, rModD, rFdivD, rPowD, rOrdD, rIAddD, rIsN', rIxD, rSlD, rLen, rAbs, rMax2, rMin2, rInt1, rOrd, rListOf, rListOfC, rTupleOf, rIsiD,
    mSplit, mPart, mJoin, mStarts, mEnds, startG, endG, endN, endW, eqS_iff, eqI_iff, eqB_iff, eqL_iff, lsOwn_ls, lsOf_ls, lsOf_rl, sqOf_ls, sqOf_rl, sqOf_tp, tpOf_tp, truD_ls, truD_rl, truD_tp, truD_bl, truD_int, truD_non, cPure, cNew, cBagA, sPure, isNon, flatD, tyD,
    cut_from1, cut_init, atI_0, atI_1, atI_2, atI_last, List.map_cons, List.map_nil, List.cons_append, List.nil_append, List.replicate, List.getElem?_cons_zero, List.getElem?_cons_succ, List.getElem?_nil, List.set_cons_zero, List.set_cons_succ, Option.some.injEq, exists_eq_left', exists_eq_left, Option.some_or, Option.none_or, Option.or_some, List.length_cons, List.length_nil, List.length_map, Nat.sub_zero, Nat.reduceSub, Nat.reduceAdd, Nat.reduceLeDiff, List.isEmpty_cons, List.isEmpty_nil, true_and, and_true, if_true, if_false, reduceIte, Bool.not_true, Bool.not_false, Bool.false_eq_true, reduceCtorEq, List.forall_mem_cons, List.forall_mem_nil, implies_true, List.mem_singleton, forall_eq, decide_eq_true_eq, Bool.not_eq_true', decide_eq_false_iff_not, okM0_iff, List.take_zero, gr_str_iff, gr_int_iff, gr_bl_iff, gr_non_iff, gr_lss_iff, gr_ls0_iff, sqOf_1, lsOf_1, lsOwn_1, ixN_30, ixN_31, ixN_32, setIx_iff, setIx_iff', D.cel.injEq, not_true_eq_false, not_false_eq_true]
    rw [hN3]
    refine seq_g fun N4 hN4 => ?_
    simp only [dSeq, dNext, dRet, dRetN, dDrop, dSet, dIfS, dBrk, dCnt, dPar, dAug, dSetIx, dFor, dUnp, dVar, dC, dOp, dSl, dSlC, dPart, dNo, dTup, dLst, dLstC, dIf, dNot, dAnd, dOr, rNegD, dCall, dM, dM0, dApp, dFrz, dFz, dLc, dFn, dFn0, dFnK, aCons, aNil,
    qTru, qNot, qAnd, qOr, qYes, iLst, iTp, iStr', iR1, iR2, Tgt.d, setAll, wipeG, rAddD, rSubD, rMulD, rModD, rFdivD, rPowD, rOrdD, rIAddD, rIsN', rIxD, rSlD, rLen, rAbs, rMax2, rMin2, rInt1, rOrd, rListOf, rListOfC, rTupleOf, rIsiD,
    mSplit, mPart, mJoin, mStarts, mEnds, startG, endG, endN, endW, eqS_iff, eqI_iff, eqB_iff, eqL_iff, lsOwn_ls, lsOf_ls, lsOf_rl, sqOf_ls, sqOf_rl, sqOf_tp, tpOf_tp, truD_ls, truD_rl, truD_tp, truD_bl, truD_int, truD_non, cPure, cNew, cBagA, sPure, isNon, flatD, tyD,
    cut_from1, cut_init, atI_0, atI_1, atI_2, atI_last, List.map_cons, List.map_nil, List.cons_append, List.nil_append, List.replicate, List.getElem?_cons_zero, List.getElem?_cons_succ, List.getElem?_nil, List.set_cons_zero, List.set_cons_succ, Option.some.injEq, exists_eq_left', exists_eq_left, Option.some_or, Option.none_or, Option.or_some, List.length_cons, List.length_nil, List.length_map, Nat.sub_zero, Nat.reduceSub, Nat.reduceAdd, Nat.reduceLeDiff, List.isEmpty_cons, List.isEmpty_nil, true_and, and_true, if_true, if_false, reduceIte, Bool.not_true, Bool.not_false, Bool.false_eq_true, reduceCtorEq, List.forall_mem_cons, List.forall_mem_nil, implies_true, List.mem_singleton, forall_eq, decide_eq_true_eq, Bool.not_eq_true', decide_eq_false_iff_not, okM0_iff, List.take_zero, gr_str_iff, gr_int_iff, gr_bl_iff, gr_non_iff, gr_lss_iff, gr_ls0_iff, sqOf_1, lsOf_1, lsOwn_1, ixN_30, ixN_31, ixN_32, setIx_iff, setIx_iff', D.cel.injEq, not_true_eq_false, not_false_eq_true]
    have hM3 : (M2 ++ [MO.ls ((stackOf p).map D.str)])[M2.length]? = some (.ls ((stackOf p).map D.str)) := get_snoc
    have hw := wt_stackOf p
    have hw2 := len_le_wt (stackOf p)
    refine ⟨⟨_, hM3⟩, _, hM3, by simp; omega, ?_⟩
    have hk : k < M2.length := (List.getElem?_eq_some_iff.mp hM2).1
    have hM4 : ((M2 ++ [MO.ls ((stackOf p).map D.str)]).set M2.length (.ls ((stackOf p).map D.str ++ [.str [120]])))[k]? = some (.ls l2) := get_setN (get_snocL hM2) (by omega)
    generalize (M2 ++ [MO.ls ((stackOf p).map D.str)]).set M2.length (.ls ((stackOf p).map D.str ++ [.str [120]])) = M5 at hM4 ⊢
    rw [hN4]
    refine seq_g fun N5 hN5 => ?_
    simp only [dSeq, dNext, dRet, dRetN, dDrop, dSet, dIfS, dBrk, dCnt, dPar, dAug, dSetIx, dFor, dUnp, dVar, dC, dOp, dSl, dSlC, dPart, dNo, dTup, dLst, dLstC, dIf, dNot, dAnd, dOr, rNegD, dCall, dM, dM0, dApp, dFrz, dFz, dLc, dFn, dFn0, dFnK, aCons, aNil,
    qTru, qNot, qAnd, qOr, qYes, iLst, iTp, iStr', iR1, iR2, Tgt.d, setAll, wipeG, rAddD, rSubD, rMulD, rModD, rFdivD, rPowD, rOrdD, rIAddD, rIsN', rIxD, rSlD, rLen, rAbs, rMax2, rMin2, rInt1, rOrd, rListOf, rListOfC, rTupleOf, rIsiD,
    mSplit, mPart, mJoin, mStarts, mEnds, startG, endG, endN, endW, eqS_iff, eqI_iff, eqB_iff, eqL_iff, lsOwn_ls, lsOf_ls, lsOf_rl, sqOf_ls, sqOf_rl, sqOf_tp, tpOf_tp, truD_ls, truD_rl, truD_tp, truD_bl, truD_int, truD_non, cPure, cNew, cBagA, sPure, isNon, flatD, tyD,
    cut_from1, cut_init, atI_0, atI_1, atI_2, atI_last, List.map_cons, List.map_nil, List.cons_append, List.nil_append, List.replicate, List.getElem?_cons_zero, List.getElem?_cons_succ, List.getElem?_nil, List.set_cons_zero, List.set_cons_succ, Option.some.injEq, exists_eq_left', exists_eq_left, Option.some_or, Option.none_or, Option.or_some, List.length_cons, List.length_nil, List.length_map, Nat.sub_zero, Nat.reduceSub, Nat.reduceAdd, Nat.reduceLeDiff, List.isEmpty_cons, List.isEmpty_nil, true_and, and_true, if_true, if_false, reduceIte, Bool.not_true, Bool.not_false, Bool.false_eq_true, reduceCtorEq, List.forall_mem_cons, List.forall_mem_nil, implies_true, List.mem_singleton, forall_eq, decide_eq_true_eq, Bool.not_eq_true', decide_eq_false_iff_not, okM0_iff, List.take_zero, gr_str_iff, gr_int_iff, gr_bl_iff, gr_non_iff, gr_lss_iff, gr_ls0_iff, sqOf_1, lsOf_1, lsOwn_1, ixN_30, ixN_31, ixN_32, setIx_iff, setIx_iff', D.cel.injEq, not_true_eq_false, not_false_eq_true]
    refine ⟨p, rfl, rfl, by omega, _, rfl, rfl, gr_strs _, ?_⟩
    simp only [dSeq, dNext, dRet, dRetN, dDrop, dSet, dIfS, dBrk, dCnt, dPar, dAug, dSetIx, dFor, dUnp, dVar, dC, dOp, dSl, dSlC, dPart, dNo, dTup, dLst, dLstC, dIf, dNot, dAnd, dOr, rNegD, dCall, dM, dM0, dApp, dFrz, dFz, dLc, dFn, dFn0, dFnK, aCons, aNil,
    qTru, qNot, qAnd, qOr, qYes, iLst, iTp, iStr', iR1, iR2, Tgt.d, setAll, wipeG, rAddD, rSubD, rMulD, rModD, rFdivD, rPowD, rOrdD, rIAddD, rIsN', rIxD, rSlD, rLen, rAbs, rMax2, rMin2, rInt1, rOrd, rListOf, rListOfC, rTupleOf, rIsiD,
    mSplit, mPart, mJoin, mStarts, mEnds, startG, endG, endN, endW, eqS_iff, eqI_iff, eqB_iff, eqL_iff, lsOwn_ls, lsOf_ls, lsOf_rl, sqOf_ls, sqOf_rl, sqOf_tp, tpOf_tp, truD_ls, truD_rl, truD_tp, truD_bl, truD_int, truD_non, cPure, cNew, cBagA, sPure, isNon, flatD, tyD,
    cut_from1, cut_init, atI_0, atI_1, atI_2, atI_last, List.map_cons, List.map_nil, List.cons_append, List.nil_append, List.replicate, List.getElem?_cons_zero, List.getElem?_cons_succ, List.getElem?_nil, List.set_cons_zero, List.set_cons_succ, Option.some.injEq, exists_eq_left', exists_eq_left, Option.some_or, Option.none_or, Option.or_some, List.length_cons, List.length_nil, List.length_map, Nat.sub_zero, Nat.reduceSub, Nat.reduceAdd, Nat.reduceLeDiff, List.isEmpty_cons, List.isEmpty_nil, true_and, and_true, if_true, if_false, reduceIte, Bool.not_true, Bool.not_false, Bool.false_eq_true, reduceCtorEq, List.forall_mem_cons, List.forall_mem_nil, implies_true, List.mem_singleton, forall_eq, decide_eq_true_eq, Bool.not_eq_true', decide_eq_false_iff_not, okM0_iff, List.take_zero, gr_str_iff, gr_int_iff, gr_bl_iff, gr_non_iff, gr_lss_iff, gr_ls0_iff, sqOf_1, lsOf_1, lsOwn_1, ixN_30, ixN_31, ixN_32, setIx_iff, setIx_iff', D.cel.injEq, not_true_eq_false, not_false_eq_true]
    refine ⟨p, true, rfl, rfl, by omega, rfl, ?_⟩
    refine ⟨p, true, rfl, rfl, by omega, rfl, ?_⟩
    simp only [dSeq, dNext, dRet, dRetN, dDrop, dSet, dIfS, dBrk, dCnt, dPar, dAug, dSetIx, dFor, dUnp, dVar, dC, dOp, dSl, dSlC, dPart, dNo, dTup, dLst, dLstC, dIf, dNot, dAnd, dOr, rNegD, dCall, dM, dM0, dApp, dFrz, dFz, dLc, dFn, dFn0, dFnK, aCons, aNil,
    qTru, qNot, qAnd, qOr, qYes, iLst, iTp, iStr', iR1, iR2, Tgt.d, setAll, wipeG, rAddD, rSubD, rMulD, rModD, rFdivD, rPowD, rOrdD, rIAddD, rIsN', rIxD, rSlD, rLen, rAbs, rMax2, rMin2, rInt1, rOrd, rListOf, rListOfC, rTupleOf, rIsiD,
    mSplit, mPart, mJoin, mStarts, mEnds, startG, endG, endN, endW, eqS_iff, eqI_iff, eqB_iff, eqL_iff, lsOwn_ls, lsOf_ls, lsOf_rl, sqOf_ls, sqOf_rl, sqOf_tp, tpOf_tp, truD_ls, truD_rl, truD_tp, truD_bl, truD_int, truD_non, cPure, cNew, cBagA, sPure, isNon, flatD, tyD,
    cut_from1, cut_init, atI_0, atI_1, atI_2, atI_last, List.map_cons, List.map_nil, List.cons_append, List.nil_append, List.replicate, List.getElem?_cons_zero, List.getElem?_cons_succ, List.getElem?_nil, List.set_cons_zero, List.set_cons_succ, Option.some.injEq, exists_eq_left', exists_eq_left, Option.some_or, Option.none_or, Option.or_some, List.length_cons, List.length_nil, List.length_map, Nat.sub_zero, Nat.reduceSub, Nat.reduceAdd, Nat.reduceLeDiff, List.isEmpty_cons, List.isEmpty_nil, true_and, and_true, if_true, if_false, reduceIte, Bool.not_true, Bool.not_false, Bool.false_eq_true, reduceCtorEq, List.forall_mem_cons, List.forall_mem_nil, implies_true, List.mem_singleton, forall_eq, decide_eq_true_eq, Bool.not_eq_true', decide_eq_false_iff_not, okM0_iff, List.take_zero, gr_str_iff, gr_int_iff, gr_bl_iff, gr_non_iff, gr_lss_iff, gr_ls0_iff, sqOf_1, lsOf_1, lsOwn_1, ixN_30, ixN_31, ixN_32, setIx_iff, setIx_iff', D.cel.injEq, not_true_eq_false, not_false_eq_true]
    rw [hN5]
    refine seq_g fun N6 hN6 => ?_
    simp only [dSeq, dNext, dRet, dRetN, dDrop, dSet, dIfS, dBrk, dCnt, dPar, dAug, dSetIx, dFor, dUnp, dVar, dC, dOp, dSl, dSlC, dPart, dNo, dTup, dLst, dLstC, dIf, dNot, dAnd, dOr, rNegD, dCall, dM, dM0, dApp, dFrz, dFz, dLc, dFn, dFn0, dFnK, aCons, aNil,
    qTru, qNot, qAnd, qOr, qYes, iLst, iTp, iStr', iR1, iR2, Tgt.d, setAll, wipeG, rAddD, rSubD, rMulD, rModD, rFdivD, rPowD, rOrdD, rIAddD, rIsN', rIxD, rSlD, rLen, rAbs, rMax2, rMin2, rInt1, rOrd, rListOf, rListOfC, rTupleOf, rIsiD,
    mSplit, mPart, mJoin, mStarts, mEnds, startG, endG, endN, endW, eqS_iff, eqI_iff, eqB_iff, eqL_iff, lsOwn_ls, lsOf_ls, lsOf_rl, sqOf_ls, sqOf_rl, sqOf_tp, tpOf_tp, truD_ls, truD_rl, truD_tp, truD_bl, truD_int, truD_non, cPure, cNew, cBagA, sPure, isNon, flatD, tyD,
    cut_from1, cut_init, atI_0, atI_1, atI_2, atI_last, List.map_cons, List.map_nil, List.cons_append, List.nil_append, List.replicate, List.getElem?_cons_zero, List.getElem?_cons_succ, List.getElem?_nil, List.set_cons_zero, List.set_cons_succ, Option.some.injEq, exists_eq_left', exists_eq_left, Option.some_or, Option.none_or, Option.or_some, List.length_cons, List.length_nil, List.length_map, Nat.sub_zero, Nat.reduceSub, Nat.reduceAdd, Nat.reduceLeDiff, List.isEmpty_cons, List.isEmpty_nil, true_and, and_true, if_true, if_false, reduceIte, Bool.not_true, Bool.not_false, Bool.false_eq_true, reduceCtorEq, List.forall_mem_cons, List.forall_mem_nil, implies_true, List.mem_singleton, forall_eq, decide_eq_true_eq, Bool.not_eq_true', decide_eq_false_iff_not, okM0_iff, List.take_zero, gr_str_iff, gr_int_iff, gr_bl_iff, gr_non_iff, gr_lss_iff, gr_ls0_iff, sqOf_1, lsOf_1, lsOwn_1, ixN_30, ixN_31, ixN_32, setIx_iff, setIx_iff', D.cel.injEq, not_true_eq_false, not_false_eq_true]
    refine lb0_sem (fun _ => trivial) hp ?_
    intro o7 o9
    rw [hN6]
    simp only [dSeq, dNext, dRet, dRetN, dDrop, dSet, dIfS, dBrk, dCnt, dPar, dAug, dSetIx, dFor, dUnp, dVar, dC, dOp, dSl, dSlC, dPart, dNo, dTup, dLst, dLstC, dIf, dNot, dAnd, dOr, rNegD, dCall, dM, dM0, dApp, dFrz, dFz, dLc, dFn, dFn0, dFnK, aCons, aNil,
    qTru, qNot, qAnd, qOr, qYes, iLst, iTp, iStr', iR1, iR2, Tgt.d, setAll, wipeG, rAddD, rSubD, rMulD, rModD, rFdivD, rPowD, rOrdD, rIAddD, rIsN', rIxD, rSlD, rLen, rAbs, rMax2, rMin2, rInt1, rOrd, rListOf, rListOfC, rTupleOf, rIsiD,
    mSplit, mPart, mJoin, mStarts, mEnds, startG, endG, endN, endW, eqS_iff, eqI_iff, eqB_iff, eqL_iff, lsOwn_ls, lsOf_ls, lsOf_rl, sqOf_ls, sqOf_rl, sqOf_tp, tpOf_tp, truD_ls, truD_rl, truD_tp, truD_bl, truD_int, truD_non, cPure, cNew, cBagA, sPure, isNon, flatD, tyD,
    cut_from1, cut_init, atI_0, atI_1, atI_2, atI_last, List.map_cons, List.map_nil, List.cons_append, List.nil_append, List.replicate, List.getElem?_cons_zero, List.getElem?_cons_succ, List.getElem?_nil, List.set_cons_zero, List.set_cons_succ, Option.some.injEq, exists_eq_left', exists_eq_left, Option.some_or, Option.none_or, Option.or_some, List.length_cons, List.length_nil, List.length_map, Nat.sub_zero, Nat.reduceSub, Nat.reduceAdd, Nat.reduceLeDiff, List.isEmpty_cons, List.isEmpty_nil, true_and, and_true, if_true, if_false, reduceIte, Bool.not_true, Bool.not_false, Bool.false_eq_true, reduceCtorEq, List.forall_mem_cons, List.forall_mem_nil, implies_true, List.mem_singleton, forall_eq, decide_eq_true_eq, Bool.not_eq_true', decide_eq_false_iff_not, okM0_iff, List.take_zero, gr_str_iff, gr_int_iff, gr_bl_iff, gr_non_iff, gr_lss_iff, gr_ls0_iff, sqOf_1, lsOf_1, lsOwn_1, ixN_30, ixN_31, ixN_32, setIx_iff, setIx_iff', D.cel.injEq, not_true_eq_false, not_false_eq_true, cut_to1]
    refine ⟨by omega, by simp; omega, ?_⟩
    have go := fun o5 o6 o7 o8 o9 => go M5 l2 (some (.str p)) o5 o6 o7 o8 o9 hM4 (hb2.mono (by omega))
    by_cases c : (p.drop 1).take 1 = [47]
    · rw [if_neg (fun z => z c)]
      exact go ..
    · rw [if_pos c]
      refine ⟨p.drop 1, true, rfl, rfl, by simp; omega, rfl, ?_⟩
      have e : cleanedP (p.drop 1) true = p.drop 1 := by
        unfold cleanedP
        rw [pre1_take, if_neg (by simpa using c)]
      simp only [dSeq, dNext, dRet, dRetN, dDrop, dSet, dIfS, dBrk, dCnt, dPar, dAug, dSetIx, dFor, dUnp, dVar, dC, dOp, dSl, dSlC, dPart, dNo, dTup, dLst, dLstC, dIf, dNot, dAnd, dOr, rNegD, dCall, dM, dM0, dApp, dFrz, dFz, dLc, dFn, dFn0, dFnK, aCons, aNil,
    qTru, qNot, qAnd, qOr, qYes, iLst, iTp, iStr', iR1, iR2, Tgt.d, setAll, wipeG, rAddD, rSubD, rMulD, rModD, rFdivD, rPowD, rOrdD, rIAddD, rIsN', rIxD, rSlD, rLen, rAbs, rMax2, rMin2, rInt1, rOrd, rListOf, rListOfC, rTupleOf, rIsiD,
    mSplit, mPart, mJoin, mStarts, mEnds, startG, endG, endN, endW, eqS_iff, eqI_iff, eqB_iff, eqL_iff, lsOwn_ls, lsOf_ls, lsOf_rl, sqOf_ls, sqOf_rl, sqOf_tp, tpOf_tp, truD_ls, truD_rl, truD_tp, truD_bl, truD_int, truD_non, cPure, cNew, cBagA, sPure, isNon, flatD, tyD,
    cut_from1, cut_init, atI_0, atI_1, atI_2, atI_last, List.map_cons, List.map_nil, List.cons_append, List.nil_append, List.replicate, List.getElem?_cons_zero, List.getElem?_cons_succ, List.getElem?_nil, List.set_cons_zero, List.set_cons_succ, Option.some.injEq, exists_eq_left', exists_eq_left, Option.some_or, Option.none_or, Option.or_some, List.length_cons, List.length_nil, List.length_map, Nat.sub_zero, Nat.reduceSub, Nat.reduceAdd, Nat.reduceLeDiff, List.isEmpty_cons, List.isEmpty_nil, true_and, and_true, if_true, if_false, reduceIte, Bool.not_true, Bool.not_false, Bool.false_eq_true, reduceCtorEq, List.forall_mem_cons, List.forall_mem_nil, implies_true, List.mem_singleton, forall_eq, decide_eq_true_eq, Bool.not_eq_true', decide_eq_false_iff_not, okM0_iff, List.take_zero, gr_str_iff, gr_int_iff, gr_bl_iff, gr_non_iff, gr_lss_iff, gr_ls0_iff, sqOf_1, lsOf_1, lsOwn_1, ixN_30, ixN_31, ixN_32, setIx_iff, setIx_iff', D.cel.injEq, not_true_eq_false, not_false_eq_true, e]
      exact go ..
theorem sem_law (ds : List D) (M : MM) (K0 : Kd) (R0 : Kx) (h : sLaw ds M K0 R0) : rd_law (endG M.length K0 R0) (startG 10 ds) M := by
  obtain ⟨ns, rfl, rfl, hn, k⟩ := h
  unfold rd_law
  refine seq_g fun N hN => ?_
  simp only [dSeq, dNext, dRet, dRetN, dDrop, dSet, dIfS, dBrk, dCnt, dPar, dAug, dSetIx, dFor, dUnp, dVar, dC, dOp, dSl, dSlC, dPart, dNo, dTup, dLst, dLstC, dIf, dNot, dAnd, dOr, rNegD, dCall, dM, dM0, dApp, dFrz, dFz, dLc, dFn, dFn0, dFnK, aCons, aNil,
    qTru, qNot, qAnd, qOr, qYes, iLst, iTp, iStr', iR1, iR2, Tgt.d, setAll, wipeG, rAddD, rSubD, rMulD, rModD, rFdivD, rPowD, rOrdD, rIAddD, rIsN', rIxD, rSlD, rLen, rAbs, rMax2, rMin2, rInt1, rOrd, rListOf, rListOfC, rTupleOf, rIsiD,
    mSplit, mPart, mJoin, mStarts, mEnds, startG, endG, endN, endW, eqS_iff, eqI_iff, eqB_iff, eqL_iff, lsOwn_ls, lsOf_ls, lsOf_rl, sqOf_ls, sqOf_rl, sqOf_tp, tpOf_tp, truD_ls, truD_rl, truD_tp, truD_bl, truD_int, truD_non, cPure, cNew, cBagA, sPure, isNon, flatD, tyD,
    cut_from1, cut_init, atI_0, atI_1, atI_2, atI_last, List.map_cons, List.map_nil, List.cons_append, List.nil_append, List.replicate, List.getElem?_cons_zero, List.getElem?_cons_succ, List.getElem?_nil, List.set_cons_zero, List.set_cons_succ, Option.some.injEq, exists_eq_left', exists_eq_left, Option.some_or, Option.none_or, Option.or_some, List.length_cons, List.length_nil, List.length_map, Nat.sub_zero, Nat.reduceSub, Nat.reduceAdd, Nat.reduceLeDiff, List.isEmpty_cons, List.isEmpty_nil, true_and, and_true, if_true, if_false, reduceIte, Bool.not_true, Bool.not_false, Bool.false_eq_true, reduceCtorEq, List.forall_mem_cons, List.forall_mem_nil, implies_true, List.mem_singleton, forall_eq, decide_eq_true_eq, Bool.not_eq_true', decide_eq_false_iff_not, okM0_iff, List.take_zero, gr_str_iff, gr_int_iff, gr_bl_iff, gr_non_iff, gr_lss_iff, gr_ls0_iff, sqOf_1, lsOf_1, lsOwn_1, ixN_30, ixN_31, ixN_32, setIx_iff, setIx_iff', D.cel.injEq, not_true_eq_false, not_false_eq_true]
  refine ⟨_, rfl, by split <;> split <;> omega, by split <;> split <;> omega, ?_⟩
  have q : ∀ Γ M, N Γ M := by
    intro Γ M
    rw [hN]
    simp only [dSeq, dNext, dRet, dRetN, dDrop, dSet, dIfS, dBrk, dCnt, dPar, dAug, dSetIx, dFor, dUnp, dVar, dC, dOp, dSl, dSlC, dPart, dNo, dTup, dLst, dLstC, dIf, dNot, dAnd, dOr, rNegD, dCall, dM, dM0, dApp, dFrz, dFz, dLc, dFn, dFn0, dFnK, aCons, aNil,
    qTru, qNot, qAnd, qOr, qYes, iLst, iTp, iStr', iR1, iR2, Tgt.d, setAll, wipeG, rAddD, rSubD, rMulD, rModD, rFdivD, rPowD, rOrdD, rIAddD, rIsN', rIxD, rSlD, rLen, rAbs, rMax2, rMin2, rInt1, rOrd, rListOf, rListOfC, rTupleOf, rIsiD,
    mSplit, mPart, mJoin, mStarts, mEnds, startG, endG, endN, endW, eqS_iff, eqI_iff, eqB_iff, eqL_iff, lsOwn_ls, lsOf_ls, lsOf_rl, sqOf_ls, sqOf_rl, sqOf_tp, tpOf_tp, truD_ls, truD_rl, truD_tp, truD_bl, truD_int, truD_non, cPure, cNew, cBagA, sPure, isNon, flatD, tyD,
    cut_from1, cut_init, atI_0, atI_1, atI_2, atI_last, List.map_cons, List.map_nil, List.cons_append, List.nil_append, List.replicate, List.getElem?_cons_zero, List.getElem?_cons_succ, List.getElem?_nil, List.set_cons_zero, List.set_cons_succ, Option.some.injEq, exists_eq_left', exists_eq_left, Option.some_or, Option.none_or, Option.or_some, List.length_cons, List.length_nil, List.length_map, Nat.sub_zero, Nat.reduceSub, Nat.reduceAdd, Nat.reduceLeDiff, List.isEmpty_cons, List.isEmpty_nil, true_and, and_true, if_true, if_false, reduceIte, Bool.not_true, Bool.not_false, Bool.false_eq_true, reduceCtorEq, List.forall_mem_cons, List.forall_mem_nil, implies_true, List.mem_singleton, forall_eq, decide_eq_true_eq, Bool.not_eq_true', decide_eq_false_iff_not, okM0_iff, List.take_zero, gr_str_iff, gr_int_iff, gr_bl_iff, gr_non_iff, gr_lss_iff, gr_ls0_iff, sqOf_1, lsOf_1, lsOwn_1, ixN_30, ixN_31, ixN_32, setIx_iff, setIx_iff', D.cel.injEq, not_true_eq_false, not_false_eq_true]
    have e1 : cleanedP [] true = [] := by rfl
    have e2 : stackOf [47] = [[]] := by rfl
    have e3 : stackOf [47, 46, 46] = [[]] := by rfl
    have e4 : stackOf [47, 47] = [[], []] := by rfl
    refine ⟨[], true, rfl, rfl, by decide, rfl, ?_⟩
    simp only [dSeq, dNext, dRet, dRetN, dDrop, dSet, dIfS, dBrk, dCnt, dPar, dAug, dSetIx, dFor, dUnp, dVar, dC, dOp, dSl, dSlC, dPart, dNo, dTup, dLst, dLstC, dIf, dNot, dAnd, dOr, rNegD, dCall, dM, dM0, dApp, dFrz, dFz, dLc, dFn, dFn0, dFnK, aCons, aNil,
    qTru, qNot, qAnd, qOr, qYes, iLst, iTp, iStr', iR1, iR2, Tgt.d, setAll, wipeG, rAddD, rSubD, rMulD, rModD, rFdivD, rPowD, rOrdD, rIAddD, rIsN', rIxD, rSlD, rLen, rAbs, rMax2, rMin2, rInt1, rOrd, rListOf, rListOfC, rTupleOf, rIsiD,
    mSplit, mPart, mJoin, mStarts, mEnds, startG, endG, endN, endW, eqS_iff, eqI_iff, eqB_iff, eqL_iff, lsOwn_ls, lsOf_ls, lsOf_rl, sqOf_ls, sqOf_rl, sqOf_tp, tpOf_tp, truD_ls, truD_rl, truD_tp, truD_bl, truD_int, truD_non, cPure, cNew, cBagA, sPure, isNon, flatD, tyD,
    cut_from1, cut_init, atI_0, atI_1, atI_2, atI_last, List.map_cons, List.map_nil, List.cons_append, List.nil_append, List.replicate, List.getElem?_cons_zero, List.getElem?_cons_succ, List.getElem?_nil, List.set_cons_zero, List.set_cons_succ, Option.some.injEq, exists_eq_left', exists_eq_left, Option.some_or, Option.none_or, Option.or_some, List.length_cons, List.length_nil, List.length_map, Nat.sub_zero, Nat.reduceSub, Nat.reduceAdd, Nat.reduceLeDiff, List.isEmpty_cons, List.isEmpty_nil, true_and, and_true, if_true, if_false, reduceIte, Bool.not_true, Bool.not_false, Bool.false_eq_true, reduceCtorEq, List.forall_mem_cons, List.forall_mem_nil, implies_true, List.mem_singleton, forall_eq, decide_eq_true_eq, Bool.not_eq_true', decide_eq_false_iff_not, okM0_iff, List.take_zero, gr_str_iff, gr_int_iff, gr_bl_iff, gr_non_iff, gr_lss_iff, gr_ls0_iff, sqOf_1, lsOf_1, lsOwn_1, ixN_30, ixN_31, ixN_32, setIx_iff, setIx_iff', D.cel.injEq, not_true_eq_false, not_false_eq_true, e1]
    refine ⟨[47], rfl, rfl, by decide, _, rfl, rfl, gr_strs _, ?_⟩
    have f : ∀ (neg : Bool) (M : MM) (K : Kd) (a b : List Tx), K (.bl (if neg then !decide (a = b) else decide (a = b))) M → rEqD' neg (.ls (a.map .str)) (.ls (b.map .str)) M K := fun neg M K a b h => eqL_iff.mpr h
    refine f _ _ _ _ [[]] ?_
    simp only [dSeq, dNext, dRet, dRetN, dDrop, dSet, dIfS, dBrk, dCnt, dPar, dAug, dSetIx, dFor, dUnp, dVar, dC, dOp, dSl, dSlC, dPart, dNo, dTup, dLst, dLstC, dIf, dNot, dAnd, dOr, rNegD, dCall, dM, dM0, dApp, dFrz, dFz, dLc, dFn, dFn0, dFnK, aCons, aNil,
    qTru, qNot, qAnd, qOr, qYes, iLst, iTp, iStr', iR1, iR2, Tgt.d, setAll, wipeG, rAddD, rSubD, rMulD, rModD, rFdivD, rPowD, rOrdD, rIAddD, rIsN', rIxD, rSlD, rLen, rAbs, rMax2, rMin2, rInt1, rOrd, rListOf, rListOfC, rTupleOf, rIsiD,
    mSplit, mPart, mJoin, mStarts, mEnds, startG, endG, endN, endW, eqS_iff, eqI_iff, eqB_iff, eqL_iff, lsOwn_ls, lsOf_ls, lsOf_rl, sqOf_ls, sqOf_rl, sqOf_tp, tpOf_tp, truD_ls, truD_rl, truD_tp, truD_bl, truD_int, truD_non, cPure, cNew, cBagA, sPure, isNon, flatD, tyD,
    cut_from1, cut_init, atI_0, atI_1, atI_2, atI_last, List.map_cons, List.map_nil, List.cons_append, List.nil_append, List.replicate, List.getElem?_cons_zero, List.getElem?_cons_succ, List.getElem?_nil, List.set_cons_zero, List.set_cons_succ, Option.some.injEq, exists_eq_left', exists_eq_left, Option.some_or, Option.none_or, Option.or_some, List.length_cons, List.length_nil, List.length_map, Nat.sub_zero, Nat.reduceSub, Nat.reduceAdd, Nat.reduceLeDiff, List.isEmpty_cons, List.isEmpty_nil, true_and, and_true, if_true, if_false, reduceIte, Bool.not_true, Bool.not_false, Bool.false_eq_true, reduceCtorEq, List.forall_mem_cons, List.forall_mem_nil, implies_true, List.mem_singleton, forall_eq, decide_eq_true_eq, Bool.not_eq_true', decide_eq_false_iff_not, okM0_iff, List.take_zero, gr_str_iff, gr_int_iff, gr_bl_iff, gr_non_iff, gr_lss_iff, gr_ls0_iff, sqOf_1, lsOf_1, lsOwn_1, ixN_30, ixN_31, ixN_32, setIx_iff, setIx_iff', D.cel.injEq, not_true_eq_false, not_false_eq_true, e2]
    refine ⟨[47, 46, 46], rfl, rfl, by decide, _, rfl, rfl, gr_strs _, ?_⟩
    refine f _ _ _ _ [[]] ?_
    simp only [dSeq, dNext, dRet, dRetN, dDrop, dSet, dIfS, dBrk, dCnt, dPar, dAug, dSetIx, dFor, dUnp, dVar, dC, dOp, dSl, dSlC, dPart, dNo, dTup, dLst, dLstC, dIf, dNot, dAnd, dOr, rNegD, dCall, dM, dM0, dApp, dFrz, dFz, dLc, dFn, dFn0, dFnK, aCons, aNil,
    qTru, qNot, qAnd, qOr, qYes, iLst, iTp, iStr', iR1, iR2, Tgt.d, setAll, wipeG, rAddD, rSubD, rMulD, rModD, rFdivD, rPowD, rOrdD, rIAddD, rIsN', rIxD, rSlD, rLen, rAbs, rMax2, rMin2, rInt1, rOrd, rListOf, rListOfC, rTupleOf, rIsiD,
    mSplit, mPart, mJoin, mStarts, mEnds, startG, endG, endN, endW, eqS_iff, eqI_iff, eqB_iff, eqL_iff, lsOwn_ls, lsOf_ls, lsOf_rl, sqOf_ls, sqOf_rl, sqOf_tp, tpOf_tp, truD_ls, truD_rl, truD_tp, truD_bl, truD_int, truD_non, cPure, cNew, cBagA, sPure, isNon, flatD, tyD,
    cut_from1, cut_init, atI_0, atI_1, atI_2, atI_last, List.map_cons, List.map_nil, List.cons_append, List.nil_append, List.replicate, List.getElem?_cons_zero, List.getElem?_cons_succ, List.getElem?_nil, List.set_cons_zero, List.set_cons_succ, Option.some.injEq, exists_eq_left', exists_eq_left, Option.some_or, Option.none_or, Option.or_some, List.length_cons, List.length_nil, List.length_map, Nat.sub_zero, Nat.reduceSub, Nat.reduceAdd, Nat.reduceLeDiff, List.isEmpty_cons, List.isEmpty_nil, true_and, and_true, if_true, if_false, reduceIte, Bool.not_true, Bool.not_false, Bool.false_eq_true, reduceCtorEq, List.forall_mem_cons, List.forall_mem_nil, implies_true, List.mem_singleton, forall_eq, decide_eq_true_eq, Bool.not_eq_true', decide_eq_false_iff_not, okM0_iff, List.take_zero, gr_str_iff, gr_int_iff, gr_bl_iff, gr_non_iff, gr_lss_iff, gr_ls0_iff, sqOf_1, lsOf_1, lsOwn_1, ixN_30, ixN_31, ixN_32, setIx_iff, setIx_iff', D.cel.injEq, not_true_eq_false, not_false_eq_true, e3]
    refine ⟨[47, 47], rfl, rfl, by decide, _, rfl, rfl, gr_strs _, ?_⟩
    refine f _ _ _ _ [[], []] ?_
    simp only [dSeq, dNext, dRet, dRetN, dDrop, dSet, dIfS, dBrk, dCnt, dPar, dAug, dSetIx, dFor, dUnp, dVar, dC, dOp, dSl, dSlC, dPart, dNo, dTup, dLst, dLstC, dIf, dNot, dAnd, dOr, rNegD, dCall, dM, dM0, dApp, dFrz, dFz, dLc, dFn, dFn0, dFnK, aCons, aNil,
    qTru, qNot, qAnd, qOr, qYes, iLst, iTp, iStr', iR1, iR2, Tgt.d, setAll, wipeG, rAddD, rSubD, rMulD, rModD, rFdivD, rPowD, rOrdD, rIAddD, rIsN', rIxD, rSlD, rLen, rAbs, rMax2, rMin2, rInt1, rOrd, rListOf, rListOfC, rTupleOf, rIsiD,
    mSplit, mPart, mJoin, mStarts, mEnds, startG, endG, endN, endW, eqS_iff, eqI_iff, eqB_iff, eqL_iff, lsOwn_ls, lsOf_ls, lsOf_rl, sqOf_ls, sqOf_rl, sqOf_tp, tpOf_tp, truD_ls, truD_rl, truD_tp, truD_bl, truD_int, truD_non, cPure, cNew, cBagA, sPure, isNon, flatD, tyD,
    cut_from1, cut_init, atI_0, atI_1, atI_2, atI_last, List.map_cons, List.map_nil, List.cons_append, List.nil_append, List.replicate, List.getElem?_cons_zero, List.getElem?_cons_succ, List.getElem?_nil, List.set_cons_zero, List.set_cons_succ, Option.some.injEq, exists_eq_left', exists_eq_left, Option.some_or, Option.none_or, Option.or_some, List.length_cons, List.length_nil, List.length_map, Nat.sub_zero, Nat.reduceSub, Nat.reduceAdd, Nat.reduceLeDiff, List.isEmpty_cons, List.isEmpty_nil, true_and, and_true, if_true, if_false, reduceIte, Bool.not_true, Bool.not_false, Bool.false_eq_true, reduceCtorEq, List.forall_mem_cons, List.forall_mem_nil, implies_true, List.mem_singleton, forall_eq, decide_eq_true_eq, Bool.not_eq_true', decide_eq_false_iff_not, okM0_iff, List.take_zero, gr_str_iff, gr_int_iff, gr_bl_iff, gr_non_iff, gr_lss_iff, gr_ls0_iff, sqOf_1, lsOf_1, lsOwn_1, ixN_30, ixN_31, ixN_32, setIx_iff, setIx_iff', D.cel.injEq, not_true_eq_false, not_false_eq_true, e4]
    exact k
  refine for_ind (P := fun l Γ M => (∀ d ∈ l, ∃ i : Nat, d = .int i ∧ i ≤ 100) ∧ ∃ o1 o2 o3 o4 o5 o6 o7 o8 o9, Γ = [some (.rl (ns.map .int)), o1, o2, o3, o4, o5, o6, o7, o8, o9]) ?_ ?_ _ _ _ ⟨?_, none, none, none, none, none, none, none, none, none, rfl⟩
  · rintro Γ M ⟨_, _⟩
    exact ⟨trivial, q _ _⟩
  · rintro d r Γ M N' hN' ⟨hd, o1, o2, o3, o4, o5, o6, o7, o8, o9, rfl⟩
    obtain ⟨t, rfl, ht⟩ := hd _ List.mem_cons_self
    refine ⟨trivial, ?_⟩
    unfold lb2_law
    simp only [Tgt.d, List.set_cons_succ, List.set_cons_zero]
    refine seq_g fun N1 hN1 => ?_
    simp only [dSeq, dNext, dRet, dRetN, dDrop, dSet, dIfS, dBrk, dCnt, dPar, dAug, dSetIx, dFor, dUnp, dVar, dC, dOp, dSl, dSlC, dPart, dNo, dTup, dLst, dLstC, dIf, dNot, dAnd, dOr, rNegD, dCall, dM, dM0, dApp, dFrz, dFz, dLc, dFn, dFn0, dFnK, aCons, aNil,
    qTru, qNot, qAnd, qOr, qYes, iLst, iTp, iStr', iR1, iR2, Tgt.d, setAll, wipeG, rAddD, rSubD, rMulD, rModD, rFdivD, rPowD, rOrdD, rIAddD, rIsN', rIxD, rSlD, rLen, rAbs, rMax2, rMin2, rInt1, rOrd, rListOf, rListOfC, rTupleOf, rIsiD,
    mSplit, mPart, mJoin, mStarts, mEnds, startG, endG, endN, endW, eqS_iff, eqI_iff, eqB_iff, eqL_iff, lsOwn_ls, lsOf_ls, lsOf_rl, sqOf_ls, sqOf_rl, sqOf_tp, tpOf_tp, truD_ls, truD_rl, truD_tp, truD_bl, truD_int, truD_non, cPure, cNew, cBagA, sPure, isNon, flatD, tyD,
    cut_from1, cut_init, atI_0, atI_1, atI_2, atI_last, List.map_cons, List.map_nil, List.cons_append, List.nil_append, List.replicate, List.getElem?_cons_zero, List.getElem?_cons_succ, List.getElem?_nil, List.set_cons_zero, List.set_cons_succ, Option.some.injEq, exists_eq_left', exists_eq_left, Option.some_or, Option.none_or, Option.or_some, List.length_cons, List.length_nil, List.length_map, Nat.sub_zero, Nat.reduceSub, Nat.reduceAdd, Nat.reduceLeDiff, List.isEmpty_cons, List.isEmpty_nil, true_and, and_true, if_true, if_false, reduceIte, Bool.not_true, Bool.not_false, Bool.false_eq_true, reduceCtorEq, List.forall_mem_cons, List.forall_mem_nil, implies_true, List.mem_singleton, forall_eq, decide_eq_true_eq, Bool.not_eq_true', decide_eq_false_iff_not, okM0_iff, List.take_zero, gr_str_iff, gr_int_iff, gr_bl_iff, gr_non_iff, gr_lss_iff, gr_ls0_iff, sqOf_1, lsOf_1, lsOwn_1, ixN_30, ixN_31, ixN_32, setIx_iff, setIx_iff', D.cel.injEq, not_true_eq_false, not_false_eq_true]
    refine ⟨gr_ls.mpr (gr_ints ns), ns, t, rfl, rfl, by omega, fun bg hb => ⟨_, rfl, bag_ok hb, rfl, ?_⟩⟩
    rw [hN1]
    simp only [dSeq, dNext, dRet, dRetN, dDrop, dSet, dIfS, dBrk, dCnt, dPar, dAug, dSetIx, dFor, dUnp, dVar, dC, dOp, dSl, dSlC, dPart, dNo, dTup, dLst, dLstC, dIf, dNot, dAnd, dOr, rNegD, dCall, dM, dM0, dApp, dFrz, dFz, dLc, dFn, dFn0, dFnK, aCons, aNil,
    qTru, qNot, qAnd, qOr, qYes, iLst, iTp, iStr', iR1, iR2, Tgt.d, setAll, wipeG, rAddD, rSubD, rMulD, rModD, rFdivD, rPowD, rOrdD, rIAddD, rIsN', rIxD, rSlD, rLen, rAbs, rMax2, rMin2, rInt1, rOrd, rListOf, rListOfC, rTupleOf, rIsiD,
    mSplit, mPart, mJoin, mStarts, mEnds, startG, endG, endN, endW, eqS_iff, eqI_iff, eqB_iff, eqL_iff, lsOwn_ls, lsOf_ls, lsOf_rl, sqOf_ls, sqOf_rl, sqOf_tp, tpOf_tp, truD_ls, truD_rl, truD_tp, truD_bl, truD_int, truD_non, cPure, cNew, cBagA, sPure, isNon, flatD, tyD,
    cut_from1, cut_init, atI_0, atI_1, atI_2, atI_last, List.map_cons, List.map_nil, List.cons_append, List.nil_append, List.replicate, List.getElem?_cons_zero, List.getElem?_cons_succ, List.getElem?_nil, List.set_cons_zero, List.set_cons_succ, Option.some.injEq, exists_eq_left', exists_eq_left, Option.some_or, Option.none_or, Option.or_some, List.length_cons, List.length_nil, List.length_map, Nat.sub_zero, Nat.reduceSub, Nat.reduceAdd, Nat.reduceLeDiff, List.isEmpty_cons, List.isEmpty_nil, true_and, and_true, if_true, if_false, reduceIte, Bool.not_true, Bool.not_false, Bool.false_eq_true, reduceCtorEq, List.forall_mem_cons, List.forall_mem_nil, implies_true, List.mem_singleton, forall_eq, decide_eq_true_eq, Bool.not_eq_true', decide_eq_false_iff_not, okM0_iff, List.take_zero, gr_str_iff, gr_int_iff, gr_bl_iff, gr_non_iff, gr_lss_iff, gr_ls0_iff, sqOf_1, lsOf_1, lsOwn_1, ixN_30, ixN_31, ixN_32, setIx_iff, setIx_iff', D.cel.injEq, not_true_eq_false, not_false_eq_true]
    refine ⟨_, rfl, by decide, by decide, ?_⟩
    refine lb1_sem (fun _ => trivial) _ _ bg 0 get_snoc hb (by decide) ?_ ?_
    · intro d h
      obtain ⟨i, _, rfl⟩ := List.mem_map.mp h
      exact ⟨_, rfl⟩
    · intro M p3 p4 p5 p6 p7 p8 p9
      exact hN' _ _ ⟨fun e he => hd e (List.mem_cons_of_mem _ he), _, _, p3, p4, p5, p6, p7, p8, p9, rfl⟩
  · intro d h
    obtain ⟨i, hi, rfl⟩ := List.mem_map.mp h
    refine ⟨i, rfl, ?_⟩
    have := List.mem_range.mp hi
    revert this
    split <;> split <;> omega
end L3

namespace L3
open PySem PySem.Spec PyProof.Rows L2 Evl
open Classical

abbrev topS (i : Nat) : Stmt := PySem.Challenge.pw_urlplaces_k25_stacks_of_paths.main.body.getD i (.Pass ⟨0, 0, 0, 0⟩)
/-- what the module's names hold -/
structure Txt (K : PySem.W.Frag) (mg : Str → Option Value) : Prop where
  b_abs : mg "abs" = none
  b_int : mg "int" = none
  b_isinstance : mg "isinstance" = none
  b_len : mg "len" = none
  b_list : mg "list" = none
  b_max : mg "max" = none
  b_min : mg "min" = none
  b_range : mg "range" = none
  c_DOT : ∃ t, mg "DOT" = some (.str "." t)
  c_DOUBLE_DOT : ∃ t, mg "DOUBLE_DOT" = some (.str ".." t)
/-! segments -/
abbrev st_p_segments : Stmt := topS 3
theorem sc_p_segments : FnScope ["path"] ["path"] (defScope st_p_segments) := ⟨rfl, rfl, rfl, by decide +kernel, rfl, by decide +kernel, by decide +kernel⟩
theorem bd_p_segments {P : Program} {w : World} {K : PySem.W.Frag} {mg : Str → Option Value} {base : Heap} (T : Txt K mg)  (f : Addr) : BodyD P w K mg base ["path"] "segments" st_p_segments f 0 rd_p_segments := fun cdv A outer s H E hr => by
  have hN := sc_p_segments.nd
  exact (sb_one (ss_ret (se_m PySem.F.slot_str_split PySem.F.type_str_split md_split (se_slice (se_var 0) (so_some se_int) so_no) (sa_cons (se_str (l := [47])) sa_nil))))
/-! pushed -/
abbrev st_p_pushed : Stmt := topS 4
theorem sc_p_pushed : FnScope ["held", "more", "found", "segment"] ["held", "more"] (defScope st_p_pushed) := ⟨rfl, rfl, rfl, by decide +kernel, rfl, by decide +kernel, by decide +kernel⟩
theorem bd_p_pushed {P : Program} {w : World} {K : PySem.W.Frag} {mg : Str → Option Value} {base : Heap} (T : Txt K mg)  (f : Addr) : BodyD P w K mg base ["held", "more", "found", "segment"] "pushed" st_p_pushed f 0 rd_p_pushed := fun cdv A outer s H E hr => by
  have hN := sc_p_pushed.nd
  exact (by
    refine sb_cons (ss_set (i := 2) hN (se_callTy cd_listC T.b_list (sa_cons (se_var 0) sa_nil))) ?_;
    refine sb_cons (ss_for (g := (Tgt.nm 3)) (si_lst (se_var 1)) (pg_name (i := 3) hN rfl (by first | exact .inl rfl | exact .inr rfl))
    (sb_one (ss_if (st_cmp isb_eq (opd_eqG hr.units) (se_var 3) (se_gstr (l := [46, 46]) T.c_DOUBLE_DOT))
    (sb_one (ss_set (i := 2) hN (se_sliceC (se_var 2) so_no (so_some (se_neg se_int)))))
    (sb_one (ss_if (st_cmp isb_eq (opd_neG hr.units) (se_var 3) (se_gstr (l := [46]) T.c_DOT))
    (sb_one (ss_set (i := 2) hN (se_bin opd_addC (se_var 2) (se_lst (sa_cons (se_var 3) sa_nil)))))
    sb_nil))))) ?_;
    exact sb_one (ss_ret (se_var 2)))
/-! stack_of -/
abbrev st_p_stack_of : Stmt := topS 5
theorem sc_p_stack_of : FnScope ["path", "every", "found"] ["path"] (defScope st_p_stack_of) := ⟨rfl, rfl, rfl, by decide +kernel, rfl, by decide +kernel, by decide +kernel⟩
theorem bd_p_stack_of {P : Program} {w : World} {K : PySem.W.Frag} {mg : Str → Option Value} {base : Heap} (T : Txt K mg) (h_p_segments : FD P w K mg base "segments" 1 sp_p_segments []) (h_p_pushed : FD P w K mg base "pushed" 1 sp_p_pushed []) (f : Addr) : BodyD P w K mg base ["path", "every", "found"] "stack_of" st_p_stack_of f 1 rd_p_stack_of := fun cdv A outer s H E hr => by
  have hN := sc_p_stack_of.nd
  exact (by
    refine sb_cons (ss_set (i := 1) hN (se_fd h_p_segments ck_pure (hr.mono (show 1 ≤ 1 by decide)) (sa_cons (se_var 0) sa_nil))) ?_;
    refine sb_cons (ss_set (i := 2) hN (se_fd h_p_pushed ck_new (hr.mono (show 1 ≤ 1 by decide)) (sa_cons (se_lst sa_nil) (sa_cons (se_var 1) sa_nil)))) ?_;
    exact sb_one (ss_ret (se_if (st_cmp isb_in opd_in (se_ix (se_var 1) (se_neg se_int)) (se_tup (sa_cons (se_gstr (l := [46]) T.c_DOT) (sa_cons (se_gstr (l := [46, 46]) T.c_DOUBLE_DOT) sa_nil)))) (se_bin opd_addC (se_var 2) (se_lst (sa_cons (se_str (l := [])) sa_nil))) (se_var 2))))
/-! written -/
abbrev st_p_written : Stmt := topS 6
theorem sc_p_written : FnScope ["held", "has_authority", "path"] ["held", "has_authority"] (defScope st_p_written) := ⟨rfl, rfl, rfl, by decide +kernel, rfl, by decide +kernel, by decide +kernel⟩
theorem bd_p_written {P : Program} {w : World} {K : PySem.W.Frag} {mg : Str → Option Value} {base : Heap} (T : Txt K mg)  (f : Addr) : BodyD P w K mg base ["held", "has_authority", "path"] "written" st_p_written f 0 rd_p_written := fun cdv A outer s H E hr => by
  have hN := sc_p_written.nd
  exact (sb_cons (ss_set (i := 2) hN (se_bin opd_add (se_str (l := [47])) (se_m PySem.F.slot_str_join PySem.F.type_str_join md_join (se_str (l := [47])) (sa_cons (se_var 0) sa_nil))))
    (sb_one (ss_ret (se_if (sw_pt (sw_or (st_e (se_var 1)) (sw_or1 (st_not (st_e (se_m PySem.F.slot_str_startswith PySem.F.type_str_startswith md_starts (se_var 2) (sa_cons (se_str (l := [47, 47])) sa_nil))))))) (se_var 2) (se_bin opd_add (se_str (l := [47, 46])) (se_var 2))))))
/-! cleaned_path -/
abbrev st_p_cleaned_path : Stmt := topS 7
theorem sc_p_cleaned_path : FnScope ["path", "has_authority"] ["path", "has_authority"] (defScope st_p_cleaned_path) := ⟨rfl, rfl, rfl, by decide +kernel, rfl, by decide +kernel, by decide +kernel⟩
theorem bd_p_cleaned_path {P : Program} {w : World} {K : PySem.W.Frag} {mg : Str → Option Value} {base : Heap} (T : Txt K mg) (h_p_written : FD P w K mg base "written" 1 sp_p_written []) (h_p_stack_of : FD P w K mg base "stack_of" 2 sp_p_stack_of []) (f : Addr) : BodyD P w K mg base ["path", "has_authority"] "cleaned_path" st_p_cleaned_path f 2 rd_p_cleaned_path := fun cdv A outer s H E hr => by
  have hN := sc_p_cleaned_path.nd
  exact (sb_one (ss_ret (se_if (st_e (se_m PySem.F.slot_str_startswith PySem.F.type_str_startswith md_starts (se_var 0) (sa_cons (se_str (l := [47])) sa_nil))) (se_fd h_p_written ck_pure (hr.mono (show 1 ≤ 2 by decide)) (sa_cons (se_fd (fd_pure h_p_stack_of) ck_pure (hr.mono (show 2 ≤ 2 by decide)) (sa_cons (se_var 0) sa_nil)) (sa_cons (se_var 1) sa_nil))) (se_var 0))))
/-! stack -/
abbrev st_p_stack : Stmt := topS 9
theorem sc_p_stack : FnScope ["path"] ["path"] (defScope st_p_stack) := ⟨rfl, rfl, rfl, by decide +kernel, rfl, by decide +kernel, by decide +kernel⟩
theorem bd_p_stack {P : Program} {w : World} {K : PySem.W.Frag} {mg : Str → Option Value} {base : Heap} (T : Txt K mg) (h_p_stack_of : FD P w K mg base "stack_of" 2 sp_p_stack_of []) (f : Addr) : BodyD P w K mg base ["path"] "stack" st_p_stack f 2 rd_p_stack := fun cdv A outer s H E hr => by
  have hN := sc_p_stack.nd
  exact (sb_one (ss_ret (se_fd h_p_stack_of ck_new (hr.mono (show 2 ≤ 2 by decide)) (sa_cons (se_var 0) sa_nil))))
/-! cleaned -/
abbrev st_p_cleaned : Stmt := topS 10
theorem sc_p_cleaned : FnScope ["path", "has_authority"] ["path", "has_authority"] (defScope st_p_cleaned) := ⟨rfl, rfl, rfl, by decide +kernel, rfl, by decide +kernel, by decide +kernel⟩
theorem bd_p_cleaned {P : Program} {w : World} {K : PySem.W.Frag} {mg : Str → Option Value} {base : Heap} (T : Txt K mg) (h_p_cleaned_path : FD P w K mg base "cleaned_path" 3 sp_p_cleaned_path []) (f : Addr) : BodyD P w K mg base ["path", "has_authority"] "cleaned" st_p_cleaned f 3 rd_p_cleaned := fun cdv A outer s H E hr => by
  have hN := sc_p_cleaned.nd
  exact (sb_one (ss_ret (se_fd h_p_cleaned_path ck_pure (hr.mono (show 3 ≤ 3 by decide)) (sa_cons (se_var 0) (sa_cons (se_var 1) sa_nil)))))
/-! _law_bag -/
abbrev st_law_bag : Stmt := topS 12
theorem sc_law_bag : FnScope ["script", "at", "cell", "great"] ["script", "at"] (defScope st_law_bag) := ⟨rfl, rfl, rfl, by decide +kernel, rfl, by decide +kernel, by decide +kernel⟩
theorem bd_law_bag {P : Program} {w : World} {K : PySem.W.Frag} {mg : Str → Option Value} {base : Heap} (T : Txt K mg)  (f : Addr) : BodyD P w K mg base ["script", "at", "cell", "great"] "_law_bag" st_law_bag f 0 rd_law_bag := fun cdv A outer s H E hr => by
  have hN := sc_law_bag.nd
  exact (by
    refine sb_cons (ss_set (i := 2) hN se_int) ?_;
    refine sb_cons (ss_if (st_cmp isb_ord opd_lt (se_var 1) (se_callB cd_len T.b_len (sa_cons (se_var 0) sa_nil)))
    (sb_one (ss_set (i := 2) hN (se_ix (se_var 0) (se_var 1))))
    sb_nil) ?_;
    refine sb_cons (ss_set (i := 3) hN (se_bin opd_mul (se_callB cd_abs T.b_abs (sa_cons (se_var 2) sa_nil)) (se_callTy cd_int1 T.b_int (sa_cons (se_cmp opd_ge (se_callB cd_abs T.b_abs (sa_cons (se_var 2) sa_nil)) (se_bin opd_pow se_int se_int)) sa_nil)))) ?_;
    exact sb_one (ss_ret (se_lstC (by refine sa_cons (se_var 3) ?_; refine sa_cons (se_bin opd_add (se_bin opd_mod (se_bin opd_add (se_bin opd_add (se_bin opd_mod (se_var 2) (se_bin opd_add (se_bin opd_pow se_int se_int) se_int)) (se_bin opd_mul se_int (se_var 1))) se_int) se_int) se_int) ?_; refine sa_cons se_int ?_; exact sa_nil))))
/-! _law_take -/
abbrev st_law_take : Stmt := topS 13
theorem sc_law_take : FnScope ["bag", "many", "digit"] ["bag", "many"] (defScope st_law_take) := ⟨rfl, rfl, rfl, by decide +kernel, rfl, by decide +kernel, by decide +kernel⟩
theorem bd_law_take {P : Program} {w : World} {K : PySem.W.Frag} {mg : Str → Option Value} {base : Heap} (T : Txt K mg)  (f : Addr) : BodyD P w K mg base ["bag", "many", "digit"] "_law_take" st_law_take f 0 rd_law_take := fun cdv A outer s H E hr => by
  have hN := sc_law_take.nd
  exact (by
    refine sb_cons (ss_if (st_cmp isb_ord opd_gt (se_ix (se_var 0) se_int) se_int)
    (by
    refine sb_cons (ss_set (i := 2) hN (se_bin opd_mod (se_ix (se_var 0) se_int) (se_var 1))) ?_;
    refine sb_cons (ss_setIx (se_var 0) se_int (se_bin opd_fdiv (se_ix (se_var 0) se_int) (se_var 1))) ?_;
    exact sb_one (ss_ret (se_var 2)))
    sb_nil) ?_;
    refine sb_cons (ss_setIx (se_var 0) se_int (se_bin opd_add (se_ix (se_var 0) se_int) se_int)) ?_;
    refine sb_cons (ss_setIx (se_var 0) se_int (se_bin opd_mod (se_bin opd_add (se_bin opd_add (se_bin opd_mul (se_ix (se_var 0) se_int) se_int) (se_bin opd_mul (se_bin opd_mul se_int (se_ix (se_var 0) se_int)) (se_ix (se_var 0) se_int))) se_int) se_int)) ?_;
    exact sb_one (ss_ret (se_bin opd_mod (se_bin opd_fdiv (se_bin opd_mod (se_bin opd_pow (se_bin opd_fdiv (se_ix (se_var 0) se_int) se_int) se_int) se_int) se_int) (se_var 1))))
/-! _law_segment -/
abbrev st_law_segment : Stmt := topS 14
theorem sc_law_segment : FnScope ["bag", "some"] ["bag"] (defScope st_law_segment) := ⟨rfl, rfl, rfl, by decide +kernel, rfl, by decide +kernel, by decide +kernel⟩
theorem bd_law_segment {P : Program} {w : World} {K : PySem.W.Frag} {mg : Str → Option Value} {base : Heap} (T : Txt K mg) (h_law_take : FD P w K mg base "_law_take" 1 sp_law_take []) (f : Addr) : BodyD P w K mg base ["bag", "some"] "_law_segment" st_law_segment f 1 rd_law_segment := fun cdv A outer s H E hr => by
  have hN := sc_law_segment.nd
  exact (sb_cons (ss_set (i := 1) hN (se_lst (by refine sa_cons (se_str (l := [97])) ?_; refine sa_cons (se_str (l := [98])) ?_; refine sa_cons (se_str (l := [])) ?_; refine sa_cons (se_str (l := [46])) ?_; refine sa_cons (se_str (l := [46, 46])) ?_; refine sa_cons (se_str (l := [94, 50, 101])) ?_; refine sa_cons (se_str (l := [46, 94, 50, 69])) ?_; refine sa_cons (se_str (l := [94, 50, 101, 94, 50, 101])) ?_; refine sa_cons (se_str (l := [120, 58, 121])) ?_; refine sa_cons (se_str (l := [59, 112])) ?_; refine sa_cons (se_str (l := [97, 46, 98])) ?_; refine sa_cons (se_str (l := [46, 46, 46])) ?_; refine sa_cons (se_str (l := [94, 52, 49])) ?_; refine sa_cons (se_str (l := [64])) ?_; refine sa_cons (se_str (l := [99])) ?_; exact sa_nil)))
    (sb_one (ss_ret (se_ix (se_var 1) (se_fd h_law_take (ck_bagA 0) (hr.mono (show 1 ≤ 1 by decide)) (sa_cons (se_var 0) (sa_cons se_int sa_nil)))))))
/-! _law_rooted -/
abbrev st_law_rooted : Stmt := topS 15
theorem sc_law_rooted : FnScope ["bag", "most", "is_beside", "road", "k"] ["bag", "most", "is_beside"] (defScope st_law_rooted) := ⟨rfl, rfl, rfl, by decide +kernel, rfl, by decide +kernel, by decide +kernel⟩
theorem bd_law_rooted {P : Program} {w : World} {K : PySem.W.Frag} {mg : Str → Option Value} {base : Heap} (T : Txt K mg) (h_law_take : FD P w K mg base "_law_take" 1 sp_law_take []) (h_law_segment : FD P w K mg base "_law_segment" 2 sp_law_segment []) (f : Addr) : BodyD P w K mg base ["bag", "most", "is_beside", "road", "k"] "_law_rooted" st_law_rooted f 2 rd_law_rooted := fun cdv A outer s H E hr => by
  have hN := sc_law_rooted.nd
  exact (sb_cons (ss_set (i := 3) hN (se_bin opd_add (se_str (l := [47])) (se_m PySem.F.slot_str_join PySem.F.type_str_join md_join (se_str (l := [47])) (sa_cons (se_lc (own := [("k", 4)]) (g := (Tgt.nm 4)) hN (si_r1 T.b_range (sa_cons (se_bin opd_add se_int (se_fd h_law_take (ck_bagA 0) (hr.mono (show 1 ≤ 2 by decide)) (sa_cons (se_var 0) (sa_cons (se_var 1) sa_nil)))) sa_nil)) (blkOk_by (N := ["bag", "most", "is_beside", "road", "k"]) (sc := defScope st_law_rooted) (by decide +kernel)) (by decide) (fun _ _ _ _ _ => (pg_name (i := 4) hN rfl (by first | exact .inl rfl | exact .inr rfl))) (fun _ _ _ _ _ => sts_nil) (fun _ _ _ _ _ => (se_fd h_law_segment (ck_bagA 0) (hr.mono (show 2 ≤ 2 by decide)) (sa_cons (se_var 0) sa_nil)))) sa_nil))))
    (sb_one (ss_ret (se_if (sw_pt (sw_and (st_not (st_e (se_var 2))) (sw_and1 (st_cmp isb_eq (opd_eqG hr.units) (se_slice (se_var 3) so_no (so_some se_int)) (se_str (l := [47, 47])))))) (se_bin opd_add (se_str (l := [47, 46])) (se_var 3)) (se_var 3)))))
/-! _law_stack -/
abbrev st_law_stack : Stmt := topS 16
theorem sc_law_stack : FnScope ["road", "found", "rows", "row"] ["road"] (defScope st_law_stack) := ⟨rfl, rfl, rfl, by decide +kernel, rfl, by decide +kernel, by decide +kernel⟩
theorem bd_law_stack {P : Program} {w : World} {K : PySem.W.Frag} {mg : Str → Option Value} {base : Heap} (T : Txt K mg)  (f : Addr) : BodyD P w K mg base ["road", "found", "rows", "row"] "_law_stack" st_law_stack f 0 rd_law_stack := fun cdv A outer s H E hr => by
  have hN := sc_law_stack.nd
  exact (by
    refine sb_cons (ss_par (i := 1) (j := 2) hN (sa_cons (se_lstC sa_nil) (sa_cons (se_m PySem.F.slot_str_split PySem.F.type_str_split md_split (se_slice (se_var 0) (so_some se_int) so_no) (sa_cons (se_str (l := [47])) sa_nil)) sa_nil))) ?_;
    refine sb_cons (ss_for (g := (Tgt.nm 3)) (si_lst (se_var 2)) (pg_name (i := 3) hN rfl (by first | exact .inl rfl | exact .inr rfl))
    (sb_one (ss_if (st_cmp isb_eq (opd_eqG hr.units) (se_var 3) (se_str (l := [46, 46])))
    (sb_one (ss_set (i := 1) hN (se_sliceC (se_var 1) so_no (so_some (se_callB (cd_max2 rfl) T.b_max (sa_cons se_int (sa_cons (se_bin opd_sub (se_callB cd_len T.b_len (sa_cons (se_var 1) sa_nil)) se_int) sa_nil)))))))
    (sb_one (ss_if (st_cmp isb_eq (opd_neG hr.units) (se_var 3) (se_str (l := [46])))
    (sb_one (ss_expr (se_app (se_var 1) (se_var 3))))
    sb_nil))))) ?_;
    exact sb_one (ss_ret (se_bin opd_add (se_var 1) (se_bin opd_mul (se_lst (sa_cons (se_str (l := [])) sa_nil)) (se_callTy cd_int1 T.b_int (sa_cons (se_cmp opd_in (se_ix (se_var 2) (se_neg se_int)) (se_lst (sa_cons (se_str (l := [46])) (sa_cons (se_str (l := [46, 46])) sa_nil)))) sa_nil))))))
/-! _law_cleaned -/
abbrev st_law_cleaned : Stmt := topS 17
theorem sc_law_cleaned : FnScope ["road", "is_beside", "found"] ["road", "is_beside"] (defScope st_law_cleaned) := ⟨rfl, rfl, rfl, by decide +kernel, rfl, by decide +kernel, by decide +kernel⟩
theorem bd_law_cleaned {P : Program} {w : World} {K : PySem.W.Frag} {mg : Str → Option Value} {base : Heap} (T : Txt K mg) (h_law_stack : FD P w K mg base "_law_stack" 1 sp_law_stack []) (f : Addr) : BodyD P w K mg base ["road", "is_beside", "found"] "_law_cleaned" st_law_cleaned f 1 rd_law_cleaned := fun cdv A outer s H E hr => by
  have hN := sc_law_cleaned.nd
  exact (by
    refine sb_cons (ss_if (st_cmp isb_eq (opd_neG hr.units) (se_slice (se_var 0) so_no (so_some se_int)) (se_str (l := [47])))
    (sb_one (ss_ret (se_var 0)))
    sb_nil) ?_;
    refine sb_cons (ss_set (i := 2) hN (se_bin opd_add (se_str (l := [47])) (se_m PySem.F.slot_str_join PySem.F.type_str_join md_join (se_str (l := [47])) (sa_cons (se_fd h_law_stack ck_pure (hr.mono (show 1 ≤ 1 by decide)) (sa_cons (se_var 0) sa_nil)) sa_nil)))) ?_;
    exact sb_one (ss_ret (se_if (sw_pt (sw_and (st_not (st_e (se_var 1))) (sw_and1 (st_cmp isb_eq (opd_eqG hr.units) (se_slice (se_var 2) so_no (so_some se_int)) (se_str (l := [47, 47])))))) (se_bin opd_add (se_str (l := [47, 46])) (se_var 2)) (se_var 2))))
/-! law -/
abbrev st_law : Stmt := topS 18
theorem sc_law : FnScope ["script", "at", "bag", "turn", "road", "due", "found", "is_there", "other", "told"] ["script"] (defScope st_law) := ⟨rfl, rfl, rfl, by decide +kernel, rfl, by decide +kernel, by decide +kernel⟩
theorem bd_law {P : Program} {w : World} {K : PySem.W.Frag} {mg : Str → Option Value} {base : Heap} (T : Txt K mg) (h_law_bag : FD P w K mg base "_law_bag" 1 sp_law_bag []) (h_law_rooted : FD P w K mg base "_law_rooted" 3 sp_law_rooted []) (h_law_take : FD P w K mg base "_law_take" 1 sp_law_take []) (h_law_stack : FD P w K mg base "_law_stack" 1 sp_law_stack []) (h_p_stack : FD P w K mg base "stack" 3 sp_p_stack []) (h_p_cleaned_D1 : FD P w K mg base "cleaned" 4 sp_p_cleaned dv_p_cleaned_D1) (h_law_cleaned : FD P w K mg base "_law_cleaned" 2 sp_law_cleaned []) (h_p_cleaned_Khas_authority : FDK P w K mg base "cleaned" 4 sp_p_cleaned 1 ["has_authority"] gD_p_cleaned_Khas_authority) (f : Addr) : BodyD P w K mg base ["script", "at", "bag", "turn", "road", "due", "found", "is_there", "other", "told"] "law" st_law f 4 rd_law := fun cdv A outer s H E hr => by
  have hN := sc_law.nd
  exact (sb_cons (ss_for (g := (Tgt.nm 1)) (si_r1 T.b_range (sa_cons (se_callB (cd_max2 rfl) T.b_max (sa_cons se_int (sa_cons (se_callB (cd_min2 rfl) T.b_min (sa_cons se_int (sa_cons (se_callB cd_len T.b_len (sa_cons (se_var 0) sa_nil)) sa_nil))) sa_nil))) sa_nil)) (pg_name (i := 1) hN rfl (by first | exact .inl rfl | exact .inr rfl))
    (sb_cons (ss_set (i := 2) hN (se_fd h_law_bag ck_new (hr.mono (show 1 ≤ 4 by decide)) (sa_cons (se_var 0) (sa_cons (se_var 1) sa_nil))))
    (sb_one (ss_for (g := (Tgt.nm 3)) (si_r1 T.b_range (sa_cons se_int sa_nil)) (pg_name (i := 3) hN rfl (by first | exact .inl rfl | exact .inr rfl))
    (by
    refine sb_cons (ss_set (i := 4) hN (se_fd h_law_rooted (ck_bagA 0) (hr.mono (show 3 ≤ 4 by decide)) (by refine sa_cons (se_var 2) ?_; refine sa_cons se_int ?_; refine sa_cons (se_cmp (opd_eqG hr.units) (se_fd h_law_take (ck_bagA 0) (hr.mono (show 1 ≤ 4 by decide)) (sa_cons (se_var 2) (sa_cons se_int sa_nil))) se_int) ?_; exact sa_nil))) ?_;
    refine sb_cons (ss_par (i := 5) (j := 6) hN (sa_cons (se_fd h_law_stack ck_pure (hr.mono (show 1 ≤ 4 by decide)) (sa_cons (se_var 4) sa_nil)) (sa_cons (se_fd h_p_stack ck_new (hr.mono (show 3 ≤ 4 by decide)) (sa_cons (se_var 4) sa_nil)) sa_nil))) ?_;
    refine sb_cons (ss_if (sw_pt (sw_or (st_not (st_e (se_callB cd_isi T.b_isinstance (sa_cons (se_var 6) (sa_cons (se_ty T.b_list) sa_nil))))) (sw_or1 (st_cmp isb_eq (opd_neG hr.units) (se_var 6) (se_var 5)))))
    (sb_one (ss_ret se_bl))
    sb_nil) ?_;
    refine sb_cons (ss_expr (se_app (se_var 6) (se_str (l := [120])))) ?_;
    refine sb_cons (ss_if (sw_pt (sw_or (st_cmp isb_eq (opd_neG hr.units) (se_fd (fd_pure h_p_stack) ck_pure (hr.mono (show 3 ≤ 4 by decide)) (sa_cons (se_var 4) sa_nil)) (se_var 5)) (sw_or1 (st_cmp isb_eq (opd_neG hr.units) (se_fd h_p_cleaned_D1 ck_pure (hr.mono (show 4 ≤ 4 by decide)) (sa_cons (se_var 4) sa_nil)) (se_fd h_law_cleaned ck_pure (hr.mono (show 2 ≤ 4 by decide)) (sa_cons (se_var 4) (sa_cons se_bl sa_nil)))))))
    (sb_one (ss_ret se_bl))
    sb_nil) ?_;
    refine sb_cons (ss_for (g := (Tgt.nm 7)) (si_tp (se_tup (sa_cons se_bl (sa_cons se_bl sa_nil)))) (pg_name (i := 7) hN rfl (by first | exact .inl rfl | exact .inr rfl))
    (sb_cons (ss_set (i := 9) hN (se_fdK h_p_cleaned_Khas_authority ck_pure (hr.mono (show 4 ≤ 4 by decide)) (sa_cons (se_var 4) sa_nil) (sk_cons (se_var 7) sk_nil)))
    (sb_one (ss_if (sw_pt (sw_or (st_cmp isb_eq (opd_neG hr.units) (se_var 9) (se_fd h_law_cleaned ck_pure (hr.mono (show 2 ≤ 4 by decide)) (sa_cons (se_var 4) (sa_cons (se_var 7) sa_nil)))) (sw_or1 (st_cmp isb_eq (opd_neG hr.units) (se_fd h_law_cleaned ck_pure (hr.mono (show 2 ≤ 4 by decide)) (sa_cons (se_var 9) (sa_cons (se_var 7) sa_nil))) (se_var 9)))))
    (sb_one (ss_ret se_bl))
    sb_nil)))) ?_;
    refine sb_cons (ss_set (i := 8) hN (se_slice (se_var 4) (so_some se_int) so_no)) ?_;
    exact sb_one (ss_if (sw_pt (sw_and (st_cmp isb_eq (opd_neG hr.units) (se_slice (se_var 8) so_no (so_some se_int)) (se_str (l := [47]))) (sw_and1 (st_cmp isb_eq (opd_neG hr.units) (se_fd h_p_cleaned_D1 ck_pure (hr.mono (show 4 ≤ 4 by decide)) (sa_cons (se_var 8) sa_nil)) (se_var 8)))))
    (sb_one (ss_ret se_bl))
    sb_nil))))))
    (sb_one (ss_ret (se_and (se_cmp (opd_eqG hr.units) (se_fd h_p_cleaned_D1 ck_pure (hr.mono (show 4 ≤ 4 by decide)) (sa_cons (se_str (l := [])) sa_nil)) (se_str (l := []))) (se_and (se_cmp (opd_eqG hr.units) (se_fd (fd_pure h_p_stack) ck_pure (hr.mono (show 3 ≤ 4 by decide)) (sa_cons (se_str (l := [47])) sa_nil)) (se_lst (sa_cons (se_str (l := [])) sa_nil))) (se_and (se_cmp (opd_eqG hr.units) (se_fd (fd_pure h_p_stack) ck_pure (hr.mono (show 3 ≤ 4 by decide)) (sa_cons (se_str (l := [47, 46, 46])) sa_nil)) (se_lst (sa_cons (se_str (l := [])) sa_nil))) (se_one (se_cmp (opd_eqG hr.units) (se_fd (fd_pure h_p_stack) ck_pure (hr.mono (show 3 ≤ 4 by decide)) (sa_cons (se_str (l := [47, 47])) sa_nil)) (se_lst (sa_cons (se_str (l := [])) (sa_cons (se_str (l := [])) sa_nil)))))))))))

end L3

namespace L3
open PySem PySem.Spec PyProof.Rows L2 Evl
open Classical

theorem ok_p_segments {P : Program} {w : World} {K : PySem.W.Frag} {mg : Str → Option Value} {base : Heap} (T : Txt K mg)  {f : Addr} {fd : FuncData} (F : FnP K "segments" "segments" st_p_segments [] [] f fd) : FnOk P w K mg base (L2.CX P w) 1 f fd ["path"] (spOf K mg sp_p_segments) :=
  fn_anyD F sc_p_segments end_g (fun ds M K0 R0 h => by repeat (first | (obtain ⟨rfl, _⟩ := h; rfl) | obtain ⟨_, h⟩ := h)) (bd_p_segments T  f) sem_p_segments
theorem ok_p_pushed {P : Program} {w : World} {K : PySem.W.Frag} {mg : Str → Option Value} {base : Heap} (T : Txt K mg)  {f : Addr} {fd : FuncData} (F : FnP K "pushed" "pushed" st_p_pushed [] [] f fd) : FnOk P w K mg base (L2.CX P w) 1 f fd ["held", "more"] (spOf K mg sp_p_pushed) :=
  fn_anyD F sc_p_pushed end_n (fun ds M K0 R0 h => by repeat (first | (obtain ⟨rfl, _⟩ := h; rfl) | obtain ⟨_, h⟩ := h)) (bd_p_pushed T  f) sem_p_pushed
theorem ok_p_stack_of {P : Program} {w : World} {K : PySem.W.Frag} {mg : Str → Option Value} {base : Heap} (T : Txt K mg) (h_p_segments : FD P w K mg base "segments" 1 sp_p_segments []) (h_p_pushed : FD P w K mg base "pushed" 1 sp_p_pushed []) {f : Addr} {fd : FuncData} (F : FnP K "stack_of" "stack_of" st_p_stack_of [] [] f fd) : FnOk P w K mg base (L2.CX P w) 2 f fd ["path"] (spOf K mg sp_p_stack_of) :=
  fn_anyD F sc_p_stack_of end_n (fun ds M K0 R0 h => by repeat (first | (obtain ⟨rfl, _⟩ := h; rfl) | obtain ⟨_, h⟩ := h)) (bd_p_stack_of T h_p_segments h_p_pushed f) sem_p_stack_of
theorem ok_p_written {P : Program} {w : World} {K : PySem.W.Frag} {mg : Str → Option Value} {base : Heap} (T : Txt K mg)  {f : Addr} {fd : FuncData} (F : FnP K "written" "written" st_p_written [] [] f fd) : FnOk P w K mg base (L2.CX P w) 1 f fd ["held", "has_authority"] (spOf K mg sp_p_written) :=
  fn_anyD F sc_p_written end_g (fun ds M K0 R0 h => by repeat (first | (obtain ⟨rfl, _⟩ := h; rfl) | obtain ⟨_, h⟩ := h)) (bd_p_written T  f) sem_p_written
theorem ok_p_cleaned_path {P : Program} {w : World} {K : PySem.W.Frag} {mg : Str → Option Value} {base : Heap} (T : Txt K mg) (h_p_written : FD P w K mg base "written" 1 sp_p_written []) (h_p_stack_of : FD P w K mg base "stack_of" 2 sp_p_stack_of []) {f : Addr} {fd : FuncData} (F : FnP K "cleaned_path" "cleaned_path" st_p_cleaned_path [] [] f fd) : FnOk P w K mg base (L2.CX P w) 3 f fd ["path", "has_authority"] (spOf K mg sp_p_cleaned_path) :=
  fn_anyD F sc_p_cleaned_path end_g (fun ds M K0 R0 h => by repeat (first | (obtain ⟨rfl, _⟩ := h; rfl) | obtain ⟨_, h⟩ := h)) (bd_p_cleaned_path T h_p_written h_p_stack_of f) sem_p_cleaned_path
theorem ok_p_stack {P : Program} {w : World} {K : PySem.W.Frag} {mg : Str → Option Value} {base : Heap} (T : Txt K mg) (h_p_stack_of : FD P w K mg base "stack_of" 2 sp_p_stack_of []) {f : Addr} {fd : FuncData} (F : FnP K "stack" "stack" st_p_stack [] [] f fd) : FnOk P w K mg base (L2.CX P w) 3 f fd ["path"] (spOf K mg sp_p_stack) :=
  fn_anyD F sc_p_stack end_n (fun ds M K0 R0 h => by repeat (first | (obtain ⟨rfl, _⟩ := h; rfl) | obtain ⟨_, h⟩ := h)) (bd_p_stack T h_p_stack_of f) sem_p_stack
theorem ok_p_cleaned {P : Program} {w : World} {K : PySem.W.Frag} {mg : Str → Option Value} {base : Heap} (T : Txt K mg) (h_p_cleaned_path : FD P w K mg base "cleaned_path" 3 sp_p_cleaned_path []) {f : Addr} {fd : FuncData} (F : FnP K "cleaned" "cleaned" st_p_cleaned [] [("has_authority", V.bl true)] f fd) : FnOk P w K mg base (L2.CX P w) 4 f fd ["path", "has_authority"] (spOf K mg sp_p_cleaned) :=
  fn_anyD F sc_p_cleaned end_g (fun ds M K0 R0 h => by repeat (first | (obtain ⟨rfl, _⟩ := h; rfl) | obtain ⟨_, h⟩ := h)) (bd_p_cleaned T h_p_cleaned_path f) sem_p_cleaned
theorem ok_law_bag {P : Program} {w : World} {K : PySem.W.Frag} {mg : Str → Option Value} {base : Heap} (T : Txt K mg)  {f : Addr} {fd : FuncData} (F : FnP K "_law_bag" "_law_bag" st_law_bag [] [] f fd) : FnOk P w K mg base (L2.CX P w) 1 f fd ["script", "at"] (spOf K mg sp_law_bag) :=
  fn_anyD F sc_law_bag end_n (fun ds M K0 R0 h => by repeat (first | (obtain ⟨rfl, _⟩ := h; rfl) | obtain ⟨_, h⟩ := h)) (bd_law_bag T  f) sem_law_bag
theorem ok_law_take {P : Program} {w : World} {K : PySem.W.Frag} {mg : Str → Option Value} {base : Heap} (T : Txt K mg)  {f : Addr} {fd : FuncData} (F : FnP K "_law_take" "_law_take" st_law_take [] [] f fd) : FnOk P w K mg base (L2.CX P w) 1 f fd ["bag", "many"] (spOf K mg sp_law_take) :=
  fn_anyD F sc_law_take end_g (fun ds M K0 R0 h => by repeat (first | (obtain ⟨rfl, _⟩ := h; rfl) | obtain ⟨_, h⟩ := h)) (bd_law_take T  f) sem_law_take
theorem ok_law_segment {P : Program} {w : World} {K : PySem.W.Frag} {mg : Str → Option Value} {base : Heap} (T : Txt K mg) (h_law_take : FD P w K mg base "_law_take" 1 sp_law_take []) {f : Addr} {fd : FuncData} (F : FnP K "_law_segment" "_law_segment" st_law_segment [] [] f fd) : FnOk P w K mg base (L2.CX P w) 2 f fd ["bag"] (spOf K mg sp_law_segment) :=
  fn_anyD F sc_law_segment end_g (fun ds M K0 R0 h => by repeat (first | (obtain ⟨rfl, _⟩ := h; rfl) | obtain ⟨_, h⟩ := h)) (bd_law_segment T h_law_take f) sem_law_segment
theorem ok_law_rooted {P : Program} {w : World} {K : PySem.W.Frag} {mg : Str → Option Value} {base : Heap} (T : Txt K mg) (h_law_take : FD P w K mg base "_law_take" 1 sp_law_take []) (h_law_segment : FD P w K mg base "_law_segment" 2 sp_law_segment []) {f : Addr} {fd : FuncData} (F : FnP K "_law_rooted" "_law_rooted" st_law_rooted [] [] f fd) : FnOk P w K mg base (L2.CX P w) 3 f fd ["bag", "most", "is_beside"] (spOf K mg sp_law_rooted) :=
  fn_anyD F sc_law_rooted end_g (fun ds M K0 R0 h => by repeat (first | (obtain ⟨rfl, _⟩ := h; rfl) | obtain ⟨_, h⟩ := h)) (bd_law_rooted T h_law_take h_law_segment f) sem_law_rooted
theorem ok_law_stack {P : Program} {w : World} {K : PySem.W.Frag} {mg : Str → Option Value} {base : Heap} (T : Txt K mg)  {f : Addr} {fd : FuncData} (F : FnP K "_law_stack" "_law_stack" st_law_stack [] [] f fd) : FnOk P w K mg base (L2.CX P w) 1 f fd ["road"] (spOf K mg sp_law_stack) :=
  fn_anyD F sc_law_stack end_g (fun ds M K0 R0 h => by repeat (first | (obtain ⟨rfl, _⟩ := h; rfl) | obtain ⟨_, h⟩ := h)) (bd_law_stack T  f) sem_law_stack
theorem ok_law_cleaned {P : Program} {w : World} {K : PySem.W.Frag} {mg : Str → Option Value} {base : Heap} (T : Txt K mg) (h_law_stack : FD P w K mg base "_law_stack" 1 sp_law_stack []) {f : Addr} {fd : FuncData} (F : FnP K "_law_cleaned" "_law_cleaned" st_law_cleaned [] [] f fd) : FnOk P w K mg base (L2.CX P w) 2 f fd ["road", "is_beside"] (spOf K mg sp_law_cleaned) :=
  fn_anyD F sc_law_cleaned end_g (fun ds M K0 R0 h => by repeat (first | (obtain ⟨rfl, _⟩ := h; rfl) | obtain ⟨_, h⟩ := h)) (bd_law_cleaned T h_law_stack f) sem_law_cleaned
theorem ok_law {P : Program} {w : World} {K : PySem.W.Frag} {mg : Str → Option Value} {base : Heap} (T : Txt K mg) (h_law_bag : FD P w K mg base "_law_bag" 1 sp_law_bag []) (h_law_rooted : FD P w K mg base "_law_rooted" 3 sp_law_rooted []) (h_law_take : FD P w K mg base "_law_take" 1 sp_law_take []) (h_law_stack : FD P w K mg base "_law_stack" 1 sp_law_stack []) (h_p_stack : FD P w K mg base "stack" 3 sp_p_stack []) (h_p_cleaned_D1 : FD P w K mg base "cleaned" 4 sp_p_cleaned dv_p_cleaned_D1) (h_law_cleaned : FD P w K mg base "_law_cleaned" 2 sp_law_cleaned []) (h_p_cleaned_Khas_authority : FDK P w K mg base "cleaned" 4 sp_p_cleaned 1 ["has_authority"] gD_p_cleaned_Khas_authority) {f : Addr} {fd : FuncData} (F : FnP K "law" "law" st_law [] [] f fd) : FnOk P w K mg base (L2.CX P w) 5 f fd ["script"] (spOf K mg sLaw) :=
  fn_anyD F sc_law end_g (fun ds M K0 R0 h => by repeat (first | (obtain ⟨rfl, _⟩ := h; rfl) | obtain ⟨_, h⟩ := h)) (bd_law T h_law_bag h_law_rooted h_law_take h_law_stack h_p_stack h_p_cleaned_D1 h_law_cleaned h_p_cleaned_Khas_authority f) sem_law
def dd0 : He.DefD := ⟨("segments", none), "segments", "segments", defArgs st_p_segments, defBody st_p_segments, defScope st_p_segments, [], []⟩
def dd1 : He.DefD := ⟨("pushed", none), "pushed", "pushed", defArgs st_p_pushed, defBody st_p_pushed, defScope st_p_pushed, [], []⟩
def dd2 : He.DefD := ⟨("stack_of", none), "stack_of", "stack_of", defArgs st_p_stack_of, defBody st_p_stack_of, defScope st_p_stack_of, [], []⟩
def dd3 : He.DefD := ⟨("written", none), "written", "written", defArgs st_p_written, defBody st_p_written, defScope st_p_written, [], []⟩
def dd4 : He.DefD := ⟨("cleaned_path", none), "cleaned_path", "cleaned_path", defArgs st_p_cleaned_path, defBody st_p_cleaned_path, defScope st_p_cleaned_path, [], []⟩
def dd5 : He.DefD := ⟨("stack", none), "stack", "stack", defArgs st_p_stack, defBody st_p_stack, defScope st_p_stack, [], []⟩
def dd6 : He.DefD := ⟨("cleaned", none), "cleaned", "cleaned", defArgs st_p_cleaned, defBody st_p_cleaned, defScope st_p_cleaned, [], [("has_authority", .bl true)]⟩
def dd7 : He.DefD := ⟨("_law_bag", none), "_law_bag", "_law_bag", defArgs st_law_bag, defBody st_law_bag, defScope st_law_bag, [], []⟩
def dd8 : He.DefD := ⟨("_law_take", none), "_law_take", "_law_take", defArgs st_law_take, defBody st_law_take, defScope st_law_take, [], []⟩
def dd9 : He.DefD := ⟨("_law_segment", none), "_law_segment", "_law_segment", defArgs st_law_segment, defBody st_law_segment, defScope st_law_segment, [], []⟩
def dd10 : He.DefD := ⟨("_law_rooted", none), "_law_rooted", "_law_rooted", defArgs st_law_rooted, defBody st_law_rooted, defScope st_law_rooted, [], []⟩
def dd11 : He.DefD := ⟨("_law_stack", none), "_law_stack", "_law_stack", defArgs st_law_stack, defBody st_law_stack, defScope st_law_stack, [], []⟩
def dd12 : He.DefD := ⟨("_law_cleaned", none), "_law_cleaned", "_law_cleaned", defArgs st_law_cleaned, defBody st_law_cleaned, defScope st_law_cleaned, [], []⟩
def dd13 : He.DefD := ⟨("law", none), "law", "law", defArgs st_law, defBody st_law, defScope st_law, [], []⟩
def fnL : List He.DefD := [dd0, dd1, dd2, dd3, dd4, dd5, dd6, dd7, dd8, dd9, dd10, dd11, dd12, dd13]
def faL : List He.Fa := [.glo "segments", .glo "pushed", .glo "stack_of", .glo "written", .glo "cleaned_path", .glo "stack", .glo "cleaned", .glo "_law_bag", .glo "_law_take", .glo "_law_segment", .glo "_law_rooted", .glo "_law_stack", .glo "_law_cleaned", .glo "law", .free "abs", .free "int", .free "isinstance", .free "len", .free "list", .free "max", .free "min", .free "range", .str "DOT" ".", .str "DOUBLE_DOT" ".."]
abbrev RR : PySem.W.OpenRow := PySem.W.OpenLaw.row PySem.Challenge.rw_urlplaces_k25_stacks_of_paths
def looseL : List Str := ["DOT", "DOUBLE_DOT", "segments", "pushed", "stack_of", "written", "cleaned_path", "stack", "cleaned", "_law_bag", "_law_take", "_law_segment", "_law_rooted", "_law_stack", "_law_cleaned"]
abbrev hk : PySem.W.Hook := He.hookD 4 faL fnL
def ob (s : PySem.W.SharedT) : He.AlD := He.obsDG 4 faL fnL (HandSHeadRun.getT s)
theorem ob_eq (s : PySem.W.SharedT) : ob s = hk.obs s.abs := He.obsDG_eq (HandSHeadRun.getT_eq s)
theorem run (w : World) : HandSHeadRun.RunEq RR (PySem.W.view RR.prog [18]) hk ob 4000 looseL w := by
  intro os
  kernel_rfl
set_option maxHeartbeats 4000000 in
theorem facts {P : Program} {w : World} {K : PySem.W.Frag} {h : Heap} {mg : Str → Option Value} {f : Addr} (X : K.In h) (G : h.Ns mainGlobals mg) (hfa : mg ("law" : Str) = some (.ref f)) (c : He.SaysD faL fnL K) :
    ∃ fd : FuncData, (∀ (s : Shared) (v : Value), BindsTo s fd ⟨[v], []⟩ [("script", v)]) ∧ ∀ base : Heap, K.In base → base.Ns mainGlobals mg → FnOk P w K mg base (L2.CX P w) 5 f fd ["script"] (spLaw K) := by
  have T : Txt K mg := ⟨He.free_ok X G (c.fact 14 (f := .free "abs") rfl), He.free_ok X G (c.fact 15 (f := .free "int") rfl), He.free_ok X G (c.fact 16 (f := .free "isinstance") rfl), He.free_ok X G (c.fact 17 (f := .free "len") rfl), He.free_ok X G (c.fact 18 (f := .free "list") rfl), He.free_ok X G (c.fact 19 (f := .free "max") rfl), He.free_ok X G (c.fact 20 (f := .free "min") rfl), He.free_ok X G (c.fact 21 (f := .free "range") rfl), He.str_ok X G (c.fact 22 (f := .str "DOT" ".") rfl), He.str_ok X G (c.fact 23 (f := .str "DOUBLE_DOT" "..") rfl)⟩
  obtain ⟨fd0, F0⟩ := c.def_ 0 (d := dd0) rfl
  have g0 := He.glo_ok X G (c.fact 0 (f := .glo "segments") rfl)
  obtain ⟨fd1, F1⟩ := c.def_ 1 (d := dd1) rfl
  have g1 := He.glo_ok X G (c.fact 1 (f := .glo "pushed") rfl)
  obtain ⟨fd2, F2⟩ := c.def_ 2 (d := dd2) rfl
  have g2 := He.glo_ok X G (c.fact 2 (f := .glo "stack_of") rfl)
  obtain ⟨fd3, F3⟩ := c.def_ 3 (d := dd3) rfl
  have g3 := He.glo_ok X G (c.fact 3 (f := .glo "written") rfl)
  obtain ⟨fd4, F4⟩ := c.def_ 4 (d := dd4) rfl
  have g4 := He.glo_ok X G (c.fact 4 (f := .glo "cleaned_path") rfl)
  obtain ⟨fd5, F5⟩ := c.def_ 5 (d := dd5) rfl
  have g5 := He.glo_ok X G (c.fact 5 (f := .glo "stack") rfl)
  obtain ⟨fd6, F6⟩ := c.def_ 6 (d := dd6) rfl
  have g6 := He.glo_ok X G (c.fact 6 (f := .glo "cleaned") rfl)
  obtain ⟨fd7, F7⟩ := c.def_ 7 (d := dd7) rfl
  have g7 := He.glo_ok X G (c.fact 7 (f := .glo "_law_bag") rfl)
  obtain ⟨fd8, F8⟩ := c.def_ 8 (d := dd8) rfl
  have g8 := He.glo_ok X G (c.fact 8 (f := .glo "_law_take") rfl)
  obtain ⟨fd9, F9⟩ := c.def_ 9 (d := dd9) rfl
  have g9 := He.glo_ok X G (c.fact 9 (f := .glo "_law_segment") rfl)
  obtain ⟨fd10, F10⟩ := c.def_ 10 (d := dd10) rfl
  have g10 := He.glo_ok X G (c.fact 10 (f := .glo "_law_rooted") rfl)
  obtain ⟨fd11, F11⟩ := c.def_ 11 (d := dd11) rfl
  have g11 := He.glo_ok X G (c.fact 11 (f := .glo "_law_stack") rfl)
  obtain ⟨fd12, F12⟩ := c.def_ 12 (d := dd12) rfl
  have g12 := He.glo_ok X G (c.fact 12 (f := .glo "_law_cleaned") rfl)
  obtain ⟨fd13, F13⟩ := c.def_ 13 (d := dd13) rfl
  have g13 := He.glo_ok X G (c.fact 13 (f := .glo "law") rfl)
  have e := hfa.symm.trans g13
  cases e
  have b := FunD.bindsA (ps := ["script"]) F13 fun _ _ _ _ _ _ us hl => match us, hl with | [_], _ => rfl
  refine ⟨fd13, fun s v => b s [v] rfl, fun base _ _ => ?_⟩
  have o0 := ok_p_segments (P := P) (w := w) (base := base) T  F0
  have h_p_segments := fd_plain o0 g0 F0.kp (FunD.bindsN (ps := ["path"]) F0 fun _ _ _ _ _ _ us hl => match us, hl with | [_], _ => rfl)
  have o1 := ok_p_pushed (P := P) (w := w) (base := base) T  F1
  have h_p_pushed := fd_plain o1 g1 F1.kp (FunD.bindsN (ps := ["held", "more"]) F1 fun _ _ _ _ _ _ us hl => match us, hl with | [_, _], _ => rfl)
  have o2 := ok_p_stack_of (P := P) (w := w) (base := base) T h_p_segments h_p_pushed F2
  have h_p_stack_of := fd_plain o2 g2 F2.kp (FunD.bindsN (ps := ["path"]) F2 fun _ _ _ _ _ _ us hl => match us, hl with | [_], _ => rfl)
  have o3 := ok_p_written (P := P) (w := w) (base := base) T  F3
  have h_p_written := fd_plain o3 g3 F3.kp (FunD.bindsN (ps := ["held", "has_authority"]) F3 fun _ _ _ _ _ _ us hl => match us, hl with | [_, _], _ => rfl)
  have o4 := ok_p_cleaned_path (P := P) (w := w) (base := base) T h_p_written h_p_stack_of F4
  have h_p_cleaned_path := fd_plain o4 g4 F4.kp (FunD.bindsN (ps := ["path", "has_authority"]) F4 fun _ _ _ _ _ _ us hl => match us, hl with | [_, _], _ => rfl)
  have o5 := ok_p_stack (P := P) (w := w) (base := base) T h_p_stack_of F5
  have h_p_stack := fd_plain o5 g5 F5.kp (FunD.bindsN (ps := ["path"]) F5 fun _ _ _ _ _ _ us hl => match us, hl with | [_], _ => rfl)
  have o6 := ok_p_cleaned (P := P) (w := w) (base := base) T h_p_cleaned_path F6
  have h_p_cleaned_D1 : FD P w K mg base "cleaned" 4 sp_p_cleaned dv_p_cleaned_D1 := fd_dfl o6 g6 F6.kp (FunD.binds0 (ps := ["path", "has_authority"]) F6 1 (List.cons_ne_nil _ _) rfl fun _ _ _ _ _ _ us ks h1 h2 => match us, ks, h1, h2 with | [_], [_], _, _ => ⟨_, _, _, _, _, _, rfl, rfl, rfl⟩) (fun _ _ => .cons (.bl true) .nil)
  have h_p_cleaned_Khas_authority : FDK P w K mg base "cleaned" 4 sp_p_cleaned 1 ["has_authority"] gD_p_cleaned_Khas_authority := by
    obtain ⟨mv, B⟩ := FunD.kbinds0 (ps := ["path", "has_authority"]) F6 1 ["has_authority"] [] (fun us _ ws => us ++ ws) (List.cons_ne_nil _ _) (fun _ h => nomatch h) (fun r1 _ r3 => r1.append r3) fun _ _ _ _ _ _ us mv ws h1 h2 h3 => match us, ws, h1, h3 with | [_], [_], _, _ => rfl
    exact fd_kw o6 g6 F6.kp B fun a b => Paired.app a b
  have o7 := ok_law_bag (P := P) (w := w) (base := base) T  F7
  have h_law_bag := fd_plain o7 g7 F7.kp (FunD.bindsN (ps := ["script", "at"]) F7 fun _ _ _ _ _ _ us hl => match us, hl with | [_, _], _ => rfl)
  have o8 := ok_law_take (P := P) (w := w) (base := base) T  F8
  have h_law_take := fd_plain o8 g8 F8.kp (FunD.bindsN (ps := ["bag", "many"]) F8 fun _ _ _ _ _ _ us hl => match us, hl with | [_, _], _ => rfl)
  have o9 := ok_law_segment (P := P) (w := w) (base := base) T h_law_take F9
  have h_law_segment := fd_plain o9 g9 F9.kp (FunD.bindsN (ps := ["bag"]) F9 fun _ _ _ _ _ _ us hl => match us, hl with | [_], _ => rfl)
  have o10 := ok_law_rooted (P := P) (w := w) (base := base) T h_law_take h_law_segment F10
  have h_law_rooted := fd_plain o10 g10 F10.kp (FunD.bindsN (ps := ["bag", "most", "is_beside"]) F10 fun _ _ _ _ _ _ us hl => match us, hl with | [_, _, _], _ => rfl)
  have o11 := ok_law_stack (P := P) (w := w) (base := base) T  F11
  have h_law_stack := fd_plain o11 g11 F11.kp (FunD.bindsN (ps := ["road"]) F11 fun _ _ _ _ _ _ us hl => match us, hl with | [_], _ => rfl)
  have o12 := ok_law_cleaned (P := P) (w := w) (base := base) T h_law_stack F12
  have h_law_cleaned := fd_plain o12 g12 F12.kp (FunD.bindsN (ps := ["road", "is_beside"]) F12 fun _ _ _ _ _ _ us hl => match us, hl with | [_, _], _ => rfl)
  have o13 := ok_law (P := P) (w := w) (base := base) T h_law_bag h_law_rooted h_law_take h_law_stack h_p_stack h_p_cleaned_D1 h_law_cleaned h_p_cleaned_Khas_authority F13
  exact law_fn o13
end L3
open PySem PySem.W PySem.Calls PyProof.Rows
theorem PySem.Challenge.cw_urlplaces_k25_stacks_of_paths_holds : PySem.Challenge.rw_urlplaces_k25_stacks_of_paths.Holds := by
  w_on; o_law
  refine HandSHeadRun.head_any (r := OpenLaw.row PySem.Challenge.rw_urlplaces_k25_stacks_of_paths) (q := view (OpenLaw.row PySem.Challenge.rw_urlplaces_k25_stacks_of_paths).prog [18]) (H := L3.hk) (ob := L3.ob) (M := 4000) (loose := L3.looseL) (d := HandSHeadRun.topDef (OpenLaw.row PySem.Challenge.rw_urlplaces_k25_stacks_of_paths).prog 18) (kwd := []) L3.ob_eq
    (by kernel_rfl) (fun s => by kernel_rfl) L3.run (by kernel_rfl) (by kernel_rfl) (by kernel_rfl) (by rfl) (by first | assumption | decide +kernel) (by decide +kernel) ⟨rfl, rfl, rfl, rfl, rfl, by decide +kernel⟩ ?hw ?hc
  case hw => w_witness2
  case hc =>
    refine L3.walk_ofEw (l := PySem.Challenge.rw_urlplaces_k25_stacks_of_paths) (n := 63) (k := 5) (x := "script") (CX := fun w => L2.CX PySem.Challenge.rw_urlplaces_k25_stacks_of_paths.prog w) rfl (by decide) (by kernel_rfl) ⟨rfl, by decide, by decide⟩ ?F (fun _ _ _ _ _ z => L3.cx_no z)
    intro w mg fa h Y G hmg0
    obtain ⟨K, KX, c⟩ := Y
    have hmg : mg ("law" : PySem.Str) = some (.ref fa) := by
      have e : (HandSHeadRun.topDef (OpenLaw.row PySem.Challenge.rw_urlplaces_k25_stacks_of_paths).prog 18).name = ("law" : PySem.Str) := by kernel_rfl
      rw [← e]
      exact hmg0
    obtain ⟨fd, hb, hF⟩ := L3.facts (P := PySem.Challenge.rw_urlplaces_k25_stacks_of_paths.prog) (w := w) KX G hmg c
    exact ⟨K, fd, L3.spLaw K, KX, hb, fun H a ns hl _ hS => ⟨a, ns, rfl, hS, hl, fun _ => rfl⟩, hF⟩
