import PyProof.Rows.All
import Wide.All
import OpenK.AllK
import Wide.FinOn
import HandS.ForMost
import HandS.ForExc
import HandS.Evl
import HandS.Flow
import HandS.Wide
import HandS.TupAny
import HandS.StrMore
import HandS.CallSlots
import HandS.Defaults
import HandS.IsInst
import KE.KStateDown
import HandS.More
import HandS.Words
import HandS.WordsExc
import HandS.Head0
import HandS.Head1
import HandS.Head2
import HandS.HeadEnd
import HandS.HeadHook1
import HandS.HeadHook2
import HandS.MakeKwOnly
import HandS.FStr
import PyProof.FString3
import PyProof.ReprRoads
import PyProof.Rows.StrIntSpec
import PyProof.Draws
import PyProof.EnumMake
import KE.GoesEnumKw
import KE.GoesMore
import HandS.SortKw
import HandS.Zip
import HandS.IntHex
import HandS.Replace
import PyProof.StrLawsLast
import HandS.Property
import HandS.ClsMeth
import OpenK.KMeth
import PyProof.StrLawsFirst
import HandS.HeadNt
import HandS.HeadHook3
import HandS.CallLocal
import HandS.Style
import HandS.HeadHook4
import HandS.Dict
import HandS.WrittenGet
import HandS.NoneIn
import PyProof.EqAt
import KE.KCallOwn
import HandS.ExcInit
import HandS.ExcField
import HandS.TryOnly
import HandS.TryMany
import KE.KExcInit
import PyProof.ReprLen
import Wide.Once
import PySem.Challenge.RW_urlplaces_k02_octets_escaped
set_option Elab.async false
set_option linter.all false
set_option maxRecDepth 100000
set_option maxHeartbeats 4000000
/-! L3: values as plain data; readings at the level of data. -/
namespace L3
open PySem PySem.Spec PyProof.Rows L2 Evl

/-- plain data: what a value is, with all that it holds; cel k: the k-th changing object at hand -/
inductive D where
  | non | bl (b : Bool) | int (i : Int) | str (s : List Nat)
  | ls (l : List D) | tp (l : List D) | cel (k : Nat) | rl (l : List D)
  | ob (c : Str) (ns : List Str) (l : List D)
  | adr (a : Addr)
  | ty (n : String)
  | tx (s : Str)
  | cl (c : Str)
  | dt (l : List (List Nat × List Nat))
  | ex (a : Addr) (d : Option Addr) (c : Str) (ns : List Str) (l : List D)
instance : Inhabited D := ⟨.non⟩
/-- a changing object's content -/
inductive MO where
  | ls (l : List D) | dc (l : List (Key × D)) | ob (c : Str) (ns : List Str) (l : List D) | dead
abbrev G := List (Option D)
abbrev MM := List MO
/-- an exception: its class's name, its fields -/
structure XD where
  c : Str
  ns : List Str
  l : List D

abbrev SS (l : List Nat) : Str := ⟨l.toArray⟩
def Asc (l : List Nat) : Prop := ∀ c ∈ l, c < 128
theorem asc_by {l : List Nat} (h : l.all (fun c => Nat.blt c 128) = true) : Asc l := fun c hc => Nat.blt_eq.mp (List.all_eq_true.mp h c hc)

/-- a dict, texts to texts -/
def dtK (l : List (List Nat × List Nat)) : List (Key × V) := l.map fun q => (.inr (SS q.1), .str (SS q.2))
inductive Is (K : PySem.W.Frag) (mg : Str → Option Value) (A : List Addr) (F : Hp) : V → D → Prop
  | non : Is K mg A F .non .non
  | bl (b : Bool) : Is K mg A F (.bl b) (.bl b)
  | int (i : Int) : Is K mg A F (.int i) (.int i)
  | str (l : List Nat) (h : Asc l) : Is K mg A F (.str (SS l)) (.str l)
  | rl {a : Addr} {xs : List V} {ds : List D} (h : SqL K F a xs) (n : xs.length = ds.length) (p : ∀ (i : Nat) (x : V) (d : D), xs[i]? = some x → ds[i]? = some d → Is K mg A F x d) : Is K mg A F (.ref a) (.rl ds)
  | ls {a : Addr} {xs : List V} {ds : List D} (h : F a = some (.lst xs)) (n : xs.length = ds.length) (p : ∀ (i : Nat) (x : V) (d : D), xs[i]? = some x → ds[i]? = some d → Is K mg A F x d) : Is K mg A F (.ref a) (.ls ds)
  | tp {a : Addr} {xs : List V} {ds : List D} (h : SqT K F a xs) (n : xs.length = ds.length) (p : ∀ (i : Nat) (x : V) (d : D), xs[i]? = some x → ds[i]? = some d → Is K mg A F x d) : Is K mg A F (.ref a) (.tp ds)
  | cel {a : Addr} {k : Nat} (h : A[k]? = some a) : Is K mg A F (.ref a) (.cel k)
  | ob {a C dx : Addr} {c : Str} {ns : List Str} {fs : List (Str × V)} {ds : List D} (hc : mg c = some (.ref C)) (h : F a = some (.ins C dx fs)) (hn : fs.map (·.1) = ns) (n : fs.length = ds.length)
      (p : ∀ (i : Nat) (x : V) (d : D), (fs.map (·.2))[i]? = some x → ds[i]? = some d → Is K mg A F x d) : Is K mg A F (.ref a) (.ob c ns ds)
  | adr (a : Addr) : Is K mg A F (.ref a) (.adr a)
  | ty (n : String) : Is K mg A F (.ty n) (.ty n)
  | tx (s : Str) : Is K mg A F (.str s) (.tx s)
  | cl {c : Str} {a : Addr} (h : mg c = some (.ref a)) : Is K mg A F (.ref a) (.cl c)
  | dt {a : Addr} {l : List (List Nat × List Nat)} (h : F a = some (.dK (dtK l))) (ha : ∀ q ∈ l, Asc q.1 ∧ Asc q.2) : Is K mg A F (.ref a) (.dt l)
  | ex {a dd : Addr} {c : Str} {ns : List Str} {fs : List (Str × V)} {ds : List D} (h : F dd = some (.xd fs)) (hn : fs.map (·.1) = ns) (n : fs.length = ds.length)
      (p : ∀ (i : Nat) (x : V) (d : D), (fs.map (·.2))[i]? = some x → ds[i]? = some d → Is K mg A F x d) : Is K mg A F (.ref a) (.ex a (some dd) c ns ds)
  | ex0 {a : Addr} {c : Str} : Is K mg A F (.ref a) (.ex a none c [] [])

section
variable {K : PySem.W.Frag} {mg : Str → Option Value} {A A' : List Addr} {F F' : Hp}
theorem Is.mono (ex : Ex F F') (pre : A <+: A') {v : V} {d : D} (h : Is K mg A F v d) : Is K mg A' F' v d := by
  induction h with
  | non => exact .non
  | bl b => exact .bl b
  | int i => exact .int i
  | str l h => exact .str l h
  | rl h n p ih => exact .rl (ex_l ex h) n fun i x d e1 e2 => ih i x d e1 e2
  | ls h n p ih => exact .ls (ex _ _ h) n fun i x d e1 e2 => ih i x d e1 e2
  | tp h n p ih => exact .tp (ex_t ex h) n fun i x d e1 e2 => ih i x d e1 e2
  | cel h => exact .cel (by
      obtain ⟨r, rfl⟩ := pre
      rw [List.getElem?_append_left (List.getElem?_eq_some_iff.mp h).1]
      exact h)
  | ob hc h hn n p ih => exact .ob hc (ex _ _ h) hn n fun i x d e1 e2 => ih i x d e1 e2
  | adr a => exact .adr a
  | ty n => exact .ty n
  | tx s => exact .tx s
  | cl h => exact .cl h
  | dt h ha => exact .dt (ex _ _ h) ha
  | ex h hn n p ih => exact .ex (ex _ _ h) hn n fun i x d e1 e2 => ih i x d e1 e2
  | ex0 => exact .ex0

abbrev IsL (K : PySem.W.Frag) (mg : Str → Option Value) (A : List Addr) (F : Hp) : List V → List D → Prop := Paired (Is K mg A F)
theorem IsL.mono (ex : Ex F F') (pre : A <+: A') {vs : List V} {ds : List D} (h : IsL K mg A F vs ds) : IsL K mg A' F' vs ds := Paired.mapP h fun _ _ q => q.mono ex pre
theorem isL_of : ∀ {xs : List V} {ds : List D}, xs.length = ds.length → (∀ (i : Nat) (x : V) (d : D), xs[i]? = some x → ds[i]? = some d → Is K mg A F x d) → IsL K mg A F xs ds
  | [], [], _, _ => .nil
  | [], _ :: _, h, _ => by cases h
  | _ :: _, [], h, _ => by cases h
  | x :: xs, d :: ds, h, p => .cons (p 0 x d rfl rfl) (isL_of (by simpa using h) fun i y e h1 h2 => p (i + 1) y e (by simpa using h1) (by simpa using h2))
theorem IsL.get : ∀ {xs : List V} {ds : List D}, IsL K mg A F xs ds → ∀ (i : Nat) (x : V) (d : D), xs[i]? = some x → ds[i]? = some d → Is K mg A F x d
  | _, _, .nil, _, _, _, h, _ => by simp at h
  | _, _, .cons r t, 0, x, d, h1, h2 => by
    simp at h1 h2
    subst h1; subst h2
    exact r
  | _, _, .cons r t, i + 1, x, d, h1, h2 => IsL.get t i x d (by simpa using h1) (by simpa using h2)
theorem IsL.len {xs : List V} {ds : List D} (h : IsL K mg A F xs ds) : xs.length = ds.length := Paired.length h
theorem IsL.some {xs : List V} {ds : List D} (h : IsL K mg A F xs ds) {i : Nat} {d : D} (e : ds[i]? = some d) : ∃ x, xs[i]? = some x ∧ Is K mg A F x d := by
  have hl := h.len
  have hi : i < xs.length := by
    rw [hl]
    exact (List.getElem?_eq_some_iff.mp e).1
  exact ⟨xs[i], List.getElem?_eq_getElem hi, h.get i _ d (List.getElem?_eq_getElem hi) e⟩
theorem Is.lsL {a : Addr} {xs : List V} {ds : List D} (h : F a = some (.lst xs)) (p : IsL K mg A F xs ds) : Is K mg A F (.ref a) (.ls ds) := .ls h p.len p.get
theorem Is.tpL {a : Addr} {xs : List V} {ds : List D} (h : SqT K F a xs) (p : IsL K mg A F xs ds) : Is K mg A F (.ref a) (.tp ds) := .tp h p.len p.get
theorem is_ls {v : V} {ds : List D} (h : Is K mg A F v (.ls ds)) : ∃ a xs, v = .ref a ∧ F a = some (.lst xs) ∧ IsL K mg A F xs ds := by
  cases h with
  | ls h n p => exact ⟨_, _, rfl, h, isL_of n p⟩
theorem is_rl {v : V} {ds : List D} (h : Is K mg A F v (.rl ds)) : ∃ a xs, v = .ref a ∧ SqL K F a xs ∧ IsL K mg A F xs ds := by
  cases h with
  | rl h n p => exact ⟨_, _, rfl, h, isL_of n p⟩
theorem is_tp {v : V} {ds : List D} (h : Is K mg A F v (.tp ds)) : ∃ a xs, v = .ref a ∧ SqT K F a xs ∧ IsL K mg A F xs ds := by
  cases h with
  | tp h n p => exact ⟨_, _, rfl, h, isL_of n p⟩
theorem is_int {v : V} {i : Int} (h : Is K mg A F v (.int i)) : v = .int i := by cases h; rfl
theorem is_bl {v : V} {b : Bool} (h : Is K mg A F v (.bl b)) : v = .bl b := by cases h; rfl
theorem is_str {v : V} {l : List Nat} (h : Is K mg A F v (.str l)) : v = .str (SS l) := by cases h; rfl
theorem is_asc {v : V} {l : List Nat} (h : Is K mg A F v (.str l)) : Asc l := by cases h; assumption
theorem is_non {v : V} (h : Is K mg A F v .non) : v = .non := by cases h; rfl
theorem is_adr {v : V} {a : Addr} (h : Is K mg A F v (.adr a)) : v = .ref a := by cases h; rfl
theorem is_ty {v : V} {n : String} (h : Is K mg A F v (.ty n)) : v = .ty n := by cases h; rfl
theorem is_tx {v : V} {s : Str} (h : Is K mg A F v (.tx s)) : v = .str s := by cases h; rfl
theorem is_dt {v : V} {l : List (List Nat × List Nat)} (h : Is K mg A F v (.dt l)) : ∃ a, v = .ref a ∧ F a = some (.dK (dtK l)) ∧ ∀ q ∈ l, Asc q.1 ∧ Asc q.2 := by
  cases h with
  | dt h ha => exact ⟨_, rfl, h, ha⟩
theorem is_cl {v : V} {c : Str} (h : Is K mg A F v (.cl c)) : ∃ a, v = .ref a ∧ mg c = some (.ref a) := by
  cases h with
  | cl h => exact ⟨_, rfl, h⟩
theorem is_cel {v : V} {k : Nat} (h : Is K mg A F v (.cel k)) : ∃ a, v = .ref a ∧ A[k]? = some a := by
  cases h with
  | cel h => exact ⟨_, rfl, h⟩
theorem isL_strs : ∀ {xs : List V} {l : List (List Nat)}, IsL K mg A F xs (l.map .str) → xs = (l.map SS).map V.str
  | _, [], .nil => rfl
  | _, s :: l, .cons r t => by
    have e := is_str r
    have e2 := isL_strs t
    rw [e, e2]
    rfl
theorem isL_ints : ∀ {xs : List V} {l : List Int}, IsL K mg A F xs (l.map .int) → xs = l.map V.int
  | _, [], .nil => rfl
  | _, s :: l, .cons r t => by
    have e := is_int r
    have e2 := isL_ints t
    rw [e, e2]
    rfl
theorem isL_bls : ∀ {xs : List V} {l : List Bool}, IsL K mg A F xs (l.map .bl) → xs = l.map V.bl
  | _, [], .nil => rfl
  | _, s :: l, .cons r t => by
    have e := is_bl r
    have e2 := isL_bls t
    rw [e, e2]
    rfl
theorem isL_of_strs : ∀ (l : List (List Nat)), (∀ s ∈ l, Asc s) → IsL K mg A F ((l.map SS).map V.str) (l.map .str)
  | [], _ => .nil
  | s :: l, h => .cons (.str s (h s List.mem_cons_self)) (isL_of_strs l fun t ht => h t (List.mem_cons_of_mem _ ht))
theorem isL_asc : ∀ {xs : List V} {l : List (List Nat)}, IsL K mg A F xs (l.map .str) → ∀ s ∈ l, Asc s
  | _, [], .nil, _, h => by cases h
  | _, s :: l, .cons r t, q, h => by
    rcases List.mem_cons.mp h with e | e
    · rw [e]
      exact is_asc r
    · exact isL_asc t q e
theorem isL_of_ints : ∀ (l : List Int), IsL K mg A F (l.map V.int) (l.map .int)
  | [] => .nil
  | s :: l => .cons (.int s) (isL_of_ints l)
end

/-- what stands at the changing object a -/
def MoIs (K : PySem.W.Frag) (mg : Str → Option Value) (A : List Addr) (F H : Hp) (a : Addr) : MO → Prop
  | .ls ds => F a = none ∧ ∃ xs, H a = some (.lst xs) ∧ IsL K mg A F xs ds
  | .dc kvs => F a = none ∧ ∃ ks, H a = some (.dK ks) ∧ ks.map (·.1) = kvs.map (·.1) ∧ IsL K mg A F (ks.map (·.2)) (kvs.map (·.2))
  | .ob c ns ds => F a = none ∧ ∃ C dx fs, mg c = some (.ref C) ∧ H a = some (.ins C dx fs) ∧ fs.map (·.1) = ns ∧ IsL K mg A F (fs.map (·.2)) ds
  | .dead => True

theorem MoIs.mono {K : PySem.W.Frag} {mg : Str → Option Value} {A A' : List Addr} {F F' H H' : Hp} {a : Addr} {m : MO} (ex : Ex F F') (pre : A <+: A') (hf : F a = none → F' a = none) (hh : H' a = H a) (h : MoIs K mg A F H a m) : MoIs K mg A' F' H' a m := by
  cases m with
  | ls ds =>
    obtain ⟨z, xs, e, p⟩ := h
    exact ⟨hf z, xs, by rw [hh]; exact e, p.mono ex pre⟩
  | dc kvs =>
    obtain ⟨z, ks, e, q, p⟩ := h
    exact ⟨hf z, ks, by rw [hh]; exact e, q, p.mono ex pre⟩
  | ob c ns ds =>
    obtain ⟨z, C, dx, fs, h1, e, q, p⟩ := h
    exact ⟨hf z, C, dx, fs, h1, by rw [hh]; exact e, q, p.mono ex pre⟩
  | dead => trivial

/-- where a def began: what was known, the heap, the changing objects that it was handed -/
structure Org where
  F : Hp
  H : Hp
  A : List Addr

structure StK (K : PySem.W.Frag) (mg : Str → Option Value) (O : Org) (F : Hp) (A : List Addr) (H : Hp) (σ : L2.St) (Γ : G) (vs : List V) (T : List D) (M : MM) : Prop where
  exF : Ex O.F F
  exH : Ex F H
  nw : ∀ a o, F a = some o → O.F a = some o ∨ O.H a = none ∨ a ∈ O.A
  pre : O.A <+: A
  keep : ∀ a o, a ∉ O.A → O.H a = some o → H a = some o
  frs : ∀ a ∈ A, a ∉ O.A → O.H a = none
  nd : A.Nodup
  inH : ∀ a ∈ A, H a ≠ none
  len : A.length = M.length
  cells : ∀ (k : Nat) a m, A[k]? = some a → M[k]? = some m → MoIs K mg A F H a m
  sl : σ.length = Γ.length
  slot : ∀ (i : Nat) d, Γ[i]? = some (some d) → ∃ v, σ[i]? = some (some v) ∧ Is K mg A F v d
  tmp : IsL K mg A F vs T

abbrev StOk (X : Cx) := StK X.K X.mg

section
variable {X : Cx} {O : Org} {F : Hp} {A : List Addr} {H : Hp} {σ : L2.St} {Γ : G} {vs : List V} {T : List D} {M : MM}
theorem StOk.pop {v : V} {d : D} (s : StOk X O F A H σ Γ (v :: vs) (d :: T) M) : StOk X O F A H σ Γ vs T M :=
  ⟨s.exF, s.exH, s.nw, s.pre, s.keep, s.frs, s.nd, s.inH, s.len, s.cells, s.sl, s.slot, by cases s.tmp; assumption⟩
theorem StOk.top {v : V} {d : D} (s : StOk X O F A H σ Γ (v :: vs) (d :: T) M) : Is X.K X.mg A F v d := by cases s.tmp; assumption
theorem StOk.push {v : V} {d : D} (s : StOk X O F A H σ Γ vs T M) (h : Is X.K X.mg A F v d) : StOk X O F A H σ Γ (v :: vs) (d :: T) M :=
  ⟨s.exF, s.exH, s.nw, s.pre, s.keep, s.frs, s.nd, s.inH, s.len, s.cells, s.sl, s.slot, .cons h s.tmp⟩
theorem StOk.pop2 {v w : V} {d e : D} (s : StOk X O F A H σ Γ (v :: w :: vs) (d :: e :: T) M) : StOk X O F A H σ Γ vs T M := s.pop.pop
theorem StOk.top2 {v w : V} {d e : D} (s : StOk X O F A H σ Γ (v :: w :: vs) (d :: e :: T) M) : Is X.K X.mg A F w e := s.pop.top
theorem StOk.fr (s : StOk X O F A H σ Γ vs T M) {p : Addr} (hp : H p = none) : O.H p = none := by
  cases q : O.H p with
  | none => rfl
  | some u =>
    by_cases h : p ∈ O.A
    · obtain ⟨r, e⟩ := s.pre
      exact absurd hp (s.inH p (by rw [← e]; exact List.mem_append_left _ h))
    · have := s.keep p u h q
      rw [hp] at this
      cases this
/-- a new thing, known from here on -/
theorem StOk.new {p : Addr} {o : HO} (s : StOk X O F A H σ Γ vs T M) (hp : H p = none) : StOk X O (upd F p o) A (upd H p o) σ Γ vs T M := by
  have fp : F p = none := fresh_back s.exH hp
  have ex : Ex F (upd F p o) := Ex.new fp
  have ne : ∀ b u, H b = some u → b ≠ p := fun b u e => ne_of_none e hp
  refine ⟨s.exF.trans ex, fun b u e => ?_, fun b u e => ?_, s.pre, fun b u hb e => ?_, s.frs, s.nd, fun b hb => ?_, s.len, fun k a m e1 e2 => ?_, s.sl, fun i d e => ?_, s.tmp.mono ex (List.prefix_refl _)⟩
  · by_cases hb : b = p
    · subst hb
      rw [upd_same] at e
      rw [upd_same, e]
    · rw [upd_ne hb] at e
      rw [upd_ne hb]
      exact s.exH b u e
  · by_cases hb : b = p
    · exact .inr (.inl (by rw [hb]; exact s.fr hp))
    · rw [upd_ne hb] at e
      exact s.nw b u e
  · have q := s.keep b u hb e
    rw [upd_ne (ne b u q)]
    exact q
  · have q := s.inH b hb
    rw [upd_ne (fun z => q (by rw [z]; exact hp))]
    exact q
  · have c := s.cells k a m e1 e2
    cases m with
    | dead => trivial
    | ls ds =>
      have ha : a ≠ p := by
        obtain ⟨_, xs, e, _⟩ := c
        exact ne a _ e
      exact c.mono ex (List.prefix_refl _) (fun z => by rw [upd_ne ha]; exact z) (upd_ne ha)
    | dc ds =>
      have ha : a ≠ p := by
        obtain ⟨_, xs, e, _⟩ := c
        exact ne a _ e
      exact c.mono ex (List.prefix_refl _) (fun z => by rw [upd_ne ha]; exact z) (upd_ne ha)
    | ob c' ns ds =>
      have ha : a ≠ p := by
        obtain ⟨_, C, dx, fs, _, e, _⟩ := c
        exact ne a _ e
      exact c.mono ex (List.prefix_refl _) (fun z => by rw [upd_ne ha]; exact z) (upd_ne ha)
  · obtain ⟨v, h1, h2⟩ := s.slot i d e
    exact ⟨v, h1, h2.mono ex (List.prefix_refl _)⟩
/-- a new thing that may change -/
theorem StOk.newC {p : Addr} {o : HO} {m : MO} (s : StOk X O F A H σ Γ vs T M) (hp : H p = none) (hm : MoIs X.K X.mg A F (upd H p o) p m) : StOk X O F (A ++ [p]) (upd H p o) σ Γ vs T (M ++ [m]) := by
  have fp : F p = none := fresh_back s.exH hp
  have pA : p ∉ A := fun z => s.inH p z hp
  have pre : A <+: A ++ [p] := ⟨[p], rfl⟩
  have ne : ∀ b u, H b = some u → b ≠ p := fun b u e => ne_of_none e hp
  have exr : Ex F F := Ex.refl F
  refine ⟨s.exF, fun b u e => ?_, s.nw, s.pre.trans pre, fun b u hb e => ?_, fun a ha hO => ?_, ?_, fun b hb => ?_, by simp [s.len], fun k a m' e1 e2 => ?_, s.sl, fun i d e => ?_, s.tmp.mono exr pre⟩
  · have q := s.exH b u e
    rw [upd_ne (ne b u q)]
    exact q
  · have q := s.keep b u hb e
    rw [upd_ne (ne b u q)]
    exact q
  · rcases List.mem_append.mp ha with h | h
    · exact s.frs a h hO
    · have e : a = p := by simpa using h
      subst e
      cases q : O.H a with
      | none => rfl
      | some u =>
        have := s.keep a u hO q
        rw [hp] at this
        cases this
  · rw [List.nodup_append]
    refine ⟨s.nd, by simp, fun a ha b hb => ?_⟩
    have e : b = p := by simpa using hb
    subst e
    exact fun z => pA (z ▸ ha)
  · rcases List.mem_append.mp hb with h | h
    · have q := s.inH b h
      rw [upd_ne (fun z => pA (by rw [← z]; exact h))]
      exact q
    · have e : b = p := by simpa using h
      rw [e, upd_same]
      simp
  · by_cases hk : k < A.length
    · rw [List.getElem?_append_left hk] at e1
      rw [List.getElem?_append_left (by rw [← s.len]; exact hk)] at e2
      have c := s.cells k a m' e1 e2
      have ha : a ≠ p := fun z => pA (z ▸ List.mem_of_getElem? e1)
      exact c.mono exr pre (fun z => z) (upd_ne ha)
    · rw [List.getElem?_append_right (by omega)] at e1
      rw [List.getElem?_append_right (by rw [← s.len]; omega), ← s.len] at e2
      have hk0 : k - A.length = 0 := by
        have := (List.getElem?_eq_some_iff.mp e1).1
        simp at this
        omega
      rw [hk0] at e1 e2
      simp at e1 e2
      subst e1; subst e2
      exact hm.mono exr pre (fun z => z) rfl
  · obtain ⟨v, h1, h2⟩ := s.slot i d e
    exact ⟨v, h1, h2.mono exr pre⟩
end
end L3

namespace L3
open PySem PySem.Spec PyProof.Rows L2 Evl

/-! ### best readings: of an expression, a test, an operation by values -/
structure BE (X : Cx) (e : Expr) (σ : L2.St) (H : Hp) (Q : VK) : Prop where
  go : ∀ pins s, Inv X pins σ H s → wpAny (model X.prog X.w) X.A (eval e X.env) (EP X pins σ Q) X.xe s
structure BT (X : Cx) (e : Expr) (σ : L2.St) (H : Hp) (Q : Bool → Hp → Prop) : Prop where
  go : ∀ pins s, Inv X pins σ H s → wpAny (model X.prog X.w) X.A (isTrue e X.env (eval e X.env)) (TP X pins σ Q) X.xe s
structure BW (X : Cx) (e : Expr) (σ : L2.St) (H : Hp) (Q : Bool → Hp → Prop) : Prop where
  go : ∀ (whole : Sem Value) pins s, Inv X pins σ H s → wpAny (model X.prog X.w) X.A (isTrue e X.env whole) (TP X pins σ Q) X.xe s
structure BA (X : Cx) (es : List Expr) (σ : L2.St) (H : Hp) (Q : List V → Hp → Prop) : Prop where
  go : ∀ (pos : Pos) pins s, Inv X pins σ H s → wpAny (model X.prog X.w) X.A (spliced (backTo pos (starEach es X.env))) (AP X pins σ Q) X.xe s
structure BS (X : Cx) (st : Stmt) (D : Ends) (σ : L2.St) (H : Hp) : Prop where
  go : ∀ pins s, Inv X pins σ H s → wpAny (model X.prog X.w) X.A (exec st X.env) (SP X pins D) X.xe s
structure BB (X : Cx) (st : List Stmt) (D : Ends) (σ : L2.St) (H : Hp) : Prop where
  go : ∀ pins s, Inv X pins σ H s → wpAny (model X.prog X.w) X.A (execs st X.env) (SP X pins D) X.xe s
structure BO (X : Cx) (f : Value → Value → Sem Value) (x y : V) (H : Hp) (Q : VK) : Prop where
  go : ∀ pins s σ v u, Inv X pins σ H s → RelV x v → RelV y u → wpAny (model X.prog X.w) X.A (f v u) (EP X pins σ Q) X.xe s
abbrev bE (X : Cx) (e : Expr) : TE := fun σ H Q => BE X e σ H Q
abbrev bT (X : Cx) (e : Expr) : TT := fun σ H Q => BT X e σ H Q
abbrev bW (X : Cx) (e : Expr) : TT := fun σ H Q => BW X e σ H Q
abbrev bA (X : Cx) (es : List Expr) : TA := fun σ H Q => BA X es σ H Q
abbrev bS (X : Cx) (st : Stmt) : TS := fun D σ H => BS X st D σ H
abbrev bB (X : Cx) (st : List Stmt) : TS := fun D σ H => BB X st D σ H
abbrev bO (X : Cx) (f : Value → Value → Sem Value) : R2 := fun x y H Q => BO X f x y H Q
section
variable {X : Cx} {e : Expr} {es : List Expr} {st : Stmt} {sts : List Stmt} {f : Value → Value → Sem Value}
theorem bE_ok : PE X e (bE X e) := ⟨fun pins s _ _ _ I h => h.go pins s I⟩
theorem bT_ok : PT X e (bT X e) := ⟨fun pins s _ _ _ I h => h.go pins s I⟩
theorem bW_ok : PW X e (bW X e) := ⟨fun wh pins s _ _ _ I h => h.go wh pins s I⟩
theorem bA_ok : PA X es (bA X es) := ⟨fun pos pins s _ _ _ I h => h.go pos pins s I⟩
theorem bS_ok : PS X st (bS X st) := ⟨fun pins s _ _ _ I h => h.go pins s I⟩
theorem bB_ok : PSs X sts (bB X sts) := ⟨fun pins s _ _ _ I h => h.go pins s I⟩
theorem bO_ok : OpR X f (bO X f) := fun pins s σ _ _ _ v u _ I r1 r2 h => h.go pins s σ v u I r1 r2
theorem bE_of {t : TE} {σ : L2.St} {H : Hp} {Q : VK} (h : PE X e t) (q : t σ H Q) : bE X e σ H Q := ⟨fun pins s I => h.run pins s σ H Q I q⟩
theorem bT_of {t : TT} {σ : L2.St} {H : Hp} {Q : Bool → Hp → Prop} (h : PT X e t) (q : t σ H Q) : bT X e σ H Q := ⟨fun pins s I => h.run pins s σ H Q I q⟩
theorem bW_of {t : TT} {σ : L2.St} {H : Hp} {Q : Bool → Hp → Prop} (h : PW X e t) (q : t σ H Q) : bW X e σ H Q := ⟨fun wh pins s I => h.run wh pins s σ H Q I q⟩
theorem bA_of {t : TA} {σ : L2.St} {H : Hp} {Q : List V → Hp → Prop} (h : PA X es t) (q : t σ H Q) : bA X es σ H Q := ⟨fun pos pins s I => h.run pos pins s σ H Q I q⟩
theorem bS_of {t : TS} {σ : L2.St} {H : Hp} {E : Ends} (h : PS X st t) (q : t E σ H) : bS X st E σ H := ⟨fun pins s I => h.run pins s σ H E I q⟩
theorem bB_of {t : TS} {σ : L2.St} {H : Hp} {E : Ends} (h : PSs X sts t) (q : t E σ H) : bB X sts E σ H := ⟨fun pins s I => h.run pins s σ H E I q⟩
theorem bO_of {r : R2} {x y : V} {H : Hp} {Q : VK} (h : OpR X f r) (q : r x y H Q) : bO X f x y H Q := ⟨fun pins s σ v u I r1 r2 => h pins s σ H x y v u Q I r1 r2 q⟩
theorem bE_mono {σ : L2.St} {H : Hp} {Q Q' : VK} (h : bE X e σ H Q) (q : ∀ v H', Q v H' → Q' v H') : bE X e σ H Q' := ⟨fun pins s I =>
  thn (h.go pins s I) fun _ _ ⟨v, H', I', r, z⟩ => ⟨v, H', I', r, q v H' z⟩⟩
theorem bT_mono {σ : L2.St} {H : Hp} {Q Q' : Bool → Hp → Prop} (h : bT X e σ H Q) (q : ∀ v H', Q v H' → Q' v H') : bT X e σ H Q' := ⟨fun pins s I =>
  thn (h.go pins s I) fun _ _ ⟨H', I', z⟩ => ⟨H', I', q _ H' z⟩⟩
theorem bW_mono {σ : L2.St} {H : Hp} {Q Q' : Bool → Hp → Prop} (h : bW X e σ H Q) (q : ∀ v H', Q v H' → Q' v H') : bW X e σ H Q' := ⟨fun wh pins s I =>
  thn (h.go wh pins s I) fun _ _ ⟨H', I', z⟩ => ⟨H', I', q _ H' z⟩⟩
theorem bA_mono {σ : L2.St} {H : Hp} {Q Q' : List V → Hp → Prop} (h : bA X es σ H Q) (q : ∀ v H', Q v H' → Q' v H') : bA X es σ H Q' := ⟨fun pos pins s I =>
  thn (h.go pos pins s I) fun _ _ ⟨v, H', I', r, z⟩ => ⟨v, H', I', r, q v H' z⟩⟩
theorem bO_mono {x y : V} {H : Hp} {Q Q' : VK} (h : bO X f x y H Q) (q : ∀ v H', Q v H' → Q' v H') : bO X f x y H Q' := ⟨fun pins s σ v u I r1 r2 =>
  thn (h.go pins s σ v u I r1 r2) fun _ _ ⟨v, H', I', r, z⟩ => ⟨v, H', I', r, q v H' z⟩⟩
end

/-! ### readings by data -/
abbrev Kd := D → MM → Prop
abbrev Kb := Bool → MM → Prop
abbrev Kl := List D → MM → Prop
abbrev Rx := XD → G → MM → Prop
abbrev DE := G → MM → Kd → Rx → Prop
abbrev DT := G → MM → Kb → Rx → Prop
abbrev DA := G → MM → Kl → Rx → Prop
abbrev DO2 := D → D → MM → Kd → Prop

def XIs (K : PySem.W.Frag) (mg : Str → Option Value) (A : List Addr) (F : Hp) (cls : Value) (d : Option Addr) (x : XD) : Prop :=
  ∃ C, mg x.c = some (.ref C) ∧ cls = .ref C ∧ ((x.ns = [] ∧ x.l = [] ∧ d = none) ∨ ∃ dd fs, d = some dd ∧ F dd = some (.xd fs) ∧ fs.map (·.1) = x.ns ∧ IsL K mg A F (fs.map (·.2)) x.l)
def Lift (X : Cx) (W : WX) (O : Org) (vs : List V) (T : List D) (R : Rx) : Prop :=
  ∀ x σ Γ M F A H cls d, StOk X O F A H σ Γ vs T M → XIs X.K X.mg A F cls d x → R x Γ M → W cls d σ H
def Post (X : Cx) (O : Org) (σ : L2.St) (Γ : G) (vs : List V) (T : List D) (K : Kd) : VK := fun v H' => ∃ d M' F' A', StOk X O F' A' H' σ Γ (v :: vs) (d :: T) M' ∧ K d M'
def PostT (X : Cx) (O : Org) (σ : L2.St) (Γ : G) (vs : List V) (T : List D) (K : Kb) : Bool → Hp → Prop := fun b H' => ∃ M' F' A', StOk X O F' A' H' σ Γ vs T M' ∧ K b M'
def PostA (X : Cx) (O : Org) (σ : L2.St) (Γ : G) (vs : List V) (T : List D) (K : Kl) : List V → Hp → Prop := fun ws H' => ∃ ds M' F' A', StOk X O F' A' H' σ Γ vs T M' ∧ IsL X.K X.mg A' F' ws ds ∧ K ds M'
theorem Lift.pop {X : Cx} {W : WX} {O : Org} {vs : List V} {T : List D} {R : Rx} (h : Lift X W O vs T R) {v : V} {d : D} : Lift X W O (v :: vs) (d :: T) R :=
  fun x σ Γ M F A H cls d' s xi r => h x σ Γ M F A H cls d' s.pop xi r

def SE (X : Cx) (e : Expr) (t : DE) : Prop := ∀ (W : WX), Takes X W → ∀ O F A H σ Γ vs T M K R, StOk X O F A H σ Γ vs T M → Lift X W O vs T R → t Γ M K R → bE X e σ H (Post X O σ Γ vs T K)
def ST (X : Cx) (e : Expr) (t : DT) : Prop := ∀ (W : WX), Takes X W → ∀ O F A H σ Γ vs T M K R, StOk X O F A H σ Γ vs T M → Lift X W O vs T R → t Γ M K R → bT X e σ H (PostT X O σ Γ vs T K)
def SW (X : Cx) (e : Expr) (t : DT) : Prop := ∀ (W : WX), Takes X W → ∀ O F A H σ Γ vs T M K R, StOk X O F A H σ Γ vs T M → Lift X W O vs T R → t Γ M K R → bW X e σ H (PostT X O σ Γ vs T K)
def SA (X : Cx) (es : List Expr) (t : DA) : Prop := ∀ (W : WX), Takes X W → ∀ O F A H σ Γ vs T M K R, StOk X O F A H σ Γ vs T M → Lift X W O vs T R → t Γ M K R → bA X es σ H (PostA X O σ Γ vs T K)
/-- an operation on two values -/
def OpD (X : Cx) (f : Value → Value → Sem Value) (r : DO2) : Prop := ∀ O F A H σ Γ vs T M K v1 v2 d1 d2, StOk X O F A H σ Γ vs T M → Is X.K X.mg A F v1 d1 → Is X.K X.mg A F v2 d2 → r d1 d2 M K → bO X f v1 v2 H (Post X O σ Γ vs T K)

section
variable {X : Cx} {a b e : Expr} {es : List Expr} {ta tb te : DE} {tt tu : DT} {tr : DA} {pos : Pos}
/-! ### names, constants -/
def dVar (i : Nat) : DE := fun Γ M K _ => ∃ d, Γ[i]? = some (some d) ∧ K d M
def dC (d : D) : DE := fun _ M K _ => K d M
theorem se_var (i : Nat) {x : Str} (hN : X.N[i]? = some x := by rfl) (hv : Vis X.env.scope x := by first | exact Or.inl rfl | exact Or.inr (Or.inl rfl) | exact Or.inr (Or.inr rfl)) (hd : (x == ("__debug__" : Str)) = false := by decide)
    (hcd : (x == ("__classdict__" : Str)) = false := by decide) : SE X (.Name x pos) (dVar i) := by
  intro W tk O F A H σ Γ vs T M K R s lf h
  obtain ⟨d, e1, k⟩ := h
  obtain ⟨v, e2, is⟩ := s.slot i d e1
  exact bE_of (pe_var hN hv hd hcd) ⟨v, e2, d, M, F, A, s.push is, k⟩
theorem se_c {v : V} {d : D} (hp : PE X e (tC v)) (h : ∀ A F, Is X.K X.mg A F v d) : SE X e (dC d) := by
  intro W tk O F A H σ Γ vs T M K R s lf k
  exact bE_of hp ⟨d, M, F, A, s.push (h A F), k⟩
theorem se_int {i : Int} {j : Nat} : SE X (.Constant (.int i) j pos) (dC (.int i)) := se_c pe_int fun _ _ => .int i
theorem se_bl {i : Bool} {j : Nat} : SE X (.Constant (.bool i) j pos) (dC (.bl i)) := se_c pe_bl fun _ _ => .bl i
theorem se_non {j : Nat} : SE X (.Constant .none j pos) (dC .non) := se_c pe_non fun _ _ => .non
theorem se_str {x : Str} {l : List Nat} {j : Nat} (h : x = SS l := by rfl) (ha : Asc l := by exact asc_by rfl) : SE X (.Constant (.str x) j pos) (dC (.str l)) := se_c pe_str fun _ _ => by
  rw [h]
  exact .str l ha
/-- a name of the module -/
theorem se_glob {x : Str} {v : V} {d : D} {u : Value} (hg : Gl X x) (hm : X.mg x = some u) (r : RelV v u) (h : ∀ A F, Is X.K X.mg A F v d) (hd : (x == ("__debug__" : Str)) = false := by decide) : SE X (.Name x pos) (dC d) :=
  se_c (pe_glob hg hm r hd) h

/-! ### operations -/
def dOp (r : DO2) (ta tb : DE) : DE := fun Γ M K R => ta Γ M (fun d1 M1 => tb Γ M1 (fun d2 M2 => r d1 d2 M2 K) R) R
theorem two {r : DO2} (sa : SE X a ta) (sb : SE X b tb) {W : WX} (tk : Takes X W) {O : Org} {F : Hp} {A : List Addr} {H : Hp} {σ : L2.St} {Γ : G} {vs : List V} {T : List D} {M : MM} {K : Kd} {R : Rx} (s : StOk X O F A H σ Γ vs T M) (lf : Lift X W O vs T R) (h : dOp r ta tb Γ M K R)
    {B : V → V → Hp → Prop} (fin : ∀ v1 v2 d1 d2 M2 F2 A2 H2, StOk X O F2 A2 H2 σ Γ vs T M2 → Is X.K X.mg A2 F2 v1 d1 → Is X.K X.mg A2 F2 v2 d2 → r d1 d2 M2 K → B v1 v2 H2) :
    bE X a σ H fun v1 H1 => bE X b σ H1 fun v2 H2 => B v1 v2 H2 :=
  bE_mono (sa W tk O F A H σ Γ vs T M _ R s lf h) fun v1 H1 ⟨d1, M1, F1, A1, s1, h1⟩ =>
    bE_mono (sb W tk O F1 A1 H1 σ Γ (v1 :: vs) (d1 :: T) M1 _ R s1 lf.pop h1) fun v2 H2 ⟨d2, M2, F2, A2, s2, h2⟩ =>
      fin v1 v2 d1 d2 M2 F2 A2 H2 s2.pop.pop s2.pop.top s2.top h2
theorem se_bin {op : Operator} {r : DO2} (ho : OpD X (binaryOp op) r) (sa : SE X a ta) (sb : SE X b tb) : SE X (.BinOp a op b pos) (dOp r ta tb) := by
  intro W tk O F A H σ Γ vs T M K R s lf h
  refine bE_of (pe_op bO_ok bE_ok bE_ok) ?_
  exact two sa sb tk s lf h fun v1 v2 d1 d2 M2 F2 A2 H2 s2 i1 i2 k => ho O F2 A2 H2 σ Γ vs T M2 K v1 v2 d1 d2 s2 i1 i2 k
theorem se_cmp {op : CmpOp} {r : DO2} (ho : OpD X (compareOp op) r) (sa : SE X a ta) (sb : SE X b tb) (hm : behindInMarks op b = false := by first | exact nomark _ | rfl) : SE X (.Compare a [op] [b] pos) (dOp r ta tb) := by
  intro W tk O F A H σ Γ vs T M K R s lf h
  refine bE_of (pe_cmpR bO_ok bE_ok bE_ok hm) ?_
  exact two sa sb tk s lf h fun v1 v2 d1 d2 M2 F2 A2 H2 s2 i1 i2 k => ho O F2 A2 H2 σ Γ vs T M2 K v1 v2 d1 d2 s2 i1 i2 k
end
end L3

namespace L3
open PySem PySem.Spec PyProof.Rows L2 Evl
open Classical

/-! ### what a value is, seen through the changing objects -/
def lsOf (M : MM) : D → Option (List D)
  | .ls l => some l
  | .rl l => some l
  | .cel k => match M[k]? with
    | some (.ls l) => some l
    | _ => none
  | _ => none
/-- .. of the program's own making -/
def lsOwn (M : MM) : D → Option (List D)
  | .ls l => some l
  | .cel k => match M[k]? with
    | some (.ls l) => some l
    | _ => none
  | _ => none
def tpOf : D → Option (List D)
  | .tp l => some l
  | _ => none
def sqOf (M : MM) (d : D) : Option (List D) := (lsOf M d).or (tpOf d)
section
variable {X : Cx} {O : Org} {F : Hp} {A : List Addr} {H : Hp} {σ : L2.St} {Γ : G} {vs : List V} {T : List D} {M : MM} {v : V} {d : D} {l : List D}
theorem StOk.own (s : StOk X O F A H σ Γ vs T M) (i : Is X.K X.mg A F v d) (h : lsOwn M d = some l) : ∃ a xs, v = .ref a ∧ H a = some (.lst xs) ∧ IsL X.K X.mg A F xs l := by
  cases d with
  | ls l' =>
    obtain ⟨a, xs, rfl, e, p⟩ := is_ls i
    have e2 : l' = l := Option.some.inj h
    subst e2
    exact ⟨a, xs, rfl, s.exH _ _ e, p⟩
  | cel k =>
    obtain ⟨a, rfl, e⟩ := is_cel i
    replace h : (match M[k]? with | some (.ls l) => some l | _ => none) = some l := h
    cases q : M[k]? with
    | none => rw [q] at h; cases h
    | some m =>
      rw [q] at h
      have c := s.cells k a m e q
      cases m with
      | ls l' =>
        have e2 : l' = l := Option.some.inj h
        subst e2
        obtain ⟨_, xs, e3, p⟩ := c
        exact ⟨a, xs, rfl, e3, p⟩
      | _ => cases h
  | _ => cases h
theorem StOk.lst (s : StOk X O F A H σ Γ vs T M) (i : Is X.K X.mg A F v d) (h : lsOf M d = some l) : ∃ a xs, v = .ref a ∧ SqL X.K H a xs ∧ IsL X.K X.mg A F xs l := by
  cases d with
  | rl l' =>
    obtain ⟨a, xs, rfl, e, p⟩ := is_rl i
    have e2 : l' = l := Option.some.inj h
    subst e2
    exact ⟨a, xs, rfl, ex_l s.exH e, p⟩
  | ls l' =>
    obtain ⟨a, xs, rfl, e, p⟩ := s.own i (l := l) h
    exact ⟨a, xs, rfl, sq_of e, p⟩
  | cel k =>
    obtain ⟨a, xs, rfl, e, p⟩ := s.own i (l := l) h
    exact ⟨a, xs, rfl, sq_of e, p⟩
  | _ => cases h
theorem StOk.tup (s : StOk X O F A H σ Γ vs T M) (i : Is X.K X.mg A F v d) (h : tpOf d = some l) : ∃ a xs, v = .ref a ∧ SqT X.K H a xs ∧ IsL X.K X.mg A F xs l := by
  cases d with
  | tp l' =>
    obtain ⟨a, xs, rfl, e, p⟩ := is_tp i
    have e2 : l' = l := Option.some.inj h
    subst e2
    exact ⟨a, xs, rfl, ex_t s.exH e, p⟩
  | _ => cases h
theorem StOk.seq (s : StOk X O F A H σ Γ vs T M) (i : Is X.K X.mg A F v d) (h : sqOf M d = some l) : ∃ a xs, v = .ref a ∧ (SqL X.K H a xs ∨ SqT X.K H a xs) ∧ IsL X.K X.mg A F xs l := by
  unfold sqOf at h
  cases q : lsOf M d with
  | some l' =>
    rw [q] at h
    have e2 : l' = l := Option.some.inj h
    subst e2
    obtain ⟨a, xs, e, h1, p⟩ := s.lst i q
    exact ⟨a, xs, e, .inl h1, p⟩
  | none =>
    rw [q] at h
    obtain ⟨a, xs, e, h1, p⟩ := s.tup i (show tpOf d = some l from h)
    exact ⟨a, xs, e, .inr h1, p⟩
end

/-- a new list, a new tuple -/
theorem post_ls {X : Cx} {O : Org} {F : Hp} {A : List Addr} {H : Hp} {σ : L2.St} {Γ : G} {vs : List V} {T : List D} {M : MM} {K : Kd} {xs : List V} {ds : List D} (s : StOk X O F A H σ Γ vs T M) (p : IsL X.K X.mg A F xs ds) (k : K (.ls ds) M) :
    ∀ q, H q = none → Post X O σ Γ vs T K (.ref q) (upd H q (.lst xs)) := fun q hq =>
  ⟨.ls ds, M, upd F q (.lst xs), A, (s.new hq).push (Is.lsL upd_same (p.mono (Ex.new (fresh_back s.exH hq)) (List.prefix_refl _))), k⟩
theorem post_tp {X : Cx} {O : Org} {F : Hp} {A : List Addr} {H : Hp} {σ : L2.St} {Γ : G} {vs : List V} {T : List D} {M : MM} {K : Kd} {xs : List V} {ds : List D} (s : StOk X O F A H σ Γ vs T M) (p : IsL X.K X.mg A F xs ds) (k : K (.tp ds) M) :
    ∀ q, H q = none → Post X O σ Γ vs T K (.ref q) (upd H q (.tup xs)) := fun q hq =>
  ⟨.tp ds, M, upd F q (.tup xs), A, (s.new hq).push (Is.tpL (st_of upd_same) (p.mono (Ex.new (fresh_back s.exH hq)) (List.prefix_refl _))), k⟩
/-- a new list that may change -/
theorem post_cel {X : Cx} {O : Org} {F : Hp} {A : List Addr} {H : Hp} {σ : L2.St} {Γ : G} {vs : List V} {T : List D} {M : MM} {K : Kd} {xs : List V} {ds : List D} (s : StOk X O F A H σ Γ vs T M) (p : IsL X.K X.mg A F xs ds) (k : K (.cel M.length) (M ++ [.ls ds])) :
    ∀ q, H q = none → Post X O σ Γ vs T K (.ref q) (upd H q (.lst xs)) := fun q hq => by
  have s1 := s.newC (m := .ls ds) hq ⟨fresh_back s.exH hq, xs, upd_same, p⟩
  refine ⟨.cel M.length, M ++ [.ls ds], F, A ++ [q], s1.push (.cel ?_), k⟩
  rw [← s.len, List.getElem?_append_right (Nat.le_refl _), Nat.sub_self]
  rfl
theorem post_c {X : Cx} {O : Org} {F : Hp} {A : List Addr} {H : Hp} {σ : L2.St} {Γ : G} {vs : List V} {T : List D} {M : MM} {K : Kd} {v : V} {d : D} (s : StOk X O F A H σ Γ vs T M) (p : Is X.K X.mg A F v d) (k : K d M) : Post X O σ Γ vs T K v H :=
  ⟨d, M, F, A, s.push p, k⟩

/-! ### lists of related things -/
theorem Paired.app {α β : Type} {R : α → β → Prop} : ∀ {l₁ l₂ : List α} {m₁ m₂ : List β}, Paired R l₁ m₁ → Paired R l₂ m₂ → Paired R (l₁ ++ l₂) (m₁ ++ m₂)
  | _, _, _, _, .nil, s => s
  | _, _, _, _, .cons r t, s => .cons r (Paired.app t s)
theorem Paired.tk {α β : Type} {R : α → β → Prop} : ∀ {l : List α} {m : List β} (n : Nat), Paired R l m → Paired R (l.take n) (m.take n)
  | _, _, 0, _ => by rw [List.take_zero, List.take_zero]; exact .nil
  | _, _, _ + 1, .nil => .nil
  | _, _, n + 1, .cons r t => .cons r (Paired.tk n t)
theorem Paired.dr {α β : Type} {R : α → β → Prop} : ∀ {l : List α} {m : List β} (n : Nat), Paired R l m → Paired R (l.drop n) (m.drop n)
  | _, _, 0, h => h
  | _, _, _ + 1, .nil => .nil
  | _, _, n + 1, .cons _ t => Paired.dr n t
theorem Paired.flat {α β : Type} {R : α → β → Prop} {l : List α} {m : List β} (h : Paired R l m) : ∀ n, Paired R (List.replicate n l).flatten (List.replicate n m).flatten
  | 0 => .nil
  | n + 1 => by
    rw [List.replicate_succ, List.replicate_succ, List.flatten_cons, List.flatten_cons]
    exact Paired.app h (Paired.flat h n)
/-- xs[lo:hi] -/
def cut {α : Type} (xs : List α) (lo hi : Option Int) : List α := (xs.drop (HT.sIx xs.length 0 lo)).take (HT.sIx xs.length xs.length hi - HT.sIx xs.length 0 lo)
theorem IsL.cut {K : PySem.W.Frag} {mg : Str → Option Value} {A : List Addr} {F : Hp} {xs : List V} {ds : List D} (h : IsL K mg A F xs ds) (lo hi : Option Int) : IsL K mg A F (cutV xs lo hi) (L3.cut ds lo hi) := by
  unfold cutV L3.cut
  rw [h.len]
  exact Paired.tk _ (Paired.dr _ h)
theorem len_SS (l : List Nat) : (SS l).length = l.length := by
  show l.toArray.size = l.length
  simp
theorem cps_SS (l : List Nat) : (SS l).cps.toList = l := rfl
theorem cutS_SS (l : List Nat) (lo hi : Option Int) : cutS (SS l) lo hi = SS (L3.cut l lo hi) := by
  unfold cutS L3.cut
  rw [len_SS]
theorem app_SS (a b : List Nat) : SS a ++ SS b = SS (a ++ b) := TL.ext_tl (by rw [TL.tl_append])
theorem SS_inj {a b : List Nat} (h : SS a = SS b) : a = b := by
  have := congrArg (fun s : Str => s.cps.toList) h
  exact this
theorem Asc.app {a b : List Nat} (h : Asc a) (h2 : Asc b) : Asc (a ++ b) := fun c hc => (List.mem_append.mp hc).elim (h c) (h2 c)
theorem Asc.cut {a : List Nat} (h : Asc a) (lo hi : Option Int) : Asc (L3.cut a lo hi) := fun c hc => h c (List.mem_of_mem_drop (List.mem_of_mem_take hc))
theorem Asc.sub {a b : List Nat} (h : Asc b) (q : ∀ c ∈ a, c ∈ b) : Asc a := fun c hc => h c (q c hc)

/-! ### arithmetic -/
def rAddD : DO2 := fun x y M K => match x, y with
  | .int i, .int j => K (.int (i + j)) M
  | .str a, .str b => a.length + b.length ≤ 16777216 ∧ K (.str (a ++ b)) M
  | .tp a, .tp b => a.length + b.length ≤ 16777216 ∧ K (.tp (a ++ b)) M
  | x, y => match lsOwn M x, lsOwn M y with
    | some a, some b => a.length + b.length ≤ 16777216 ∧ K (.ls (a ++ b)) M
    | _, _ => False
def rSubD : DO2 := fun x y M K => match x, y with
  | .int i, .int j => K (.int (i - j)) M
  | _, _ => False
def rMulD : DO2 := fun x y M K => match x, y with
  | .int i, .int j => ((-(2 ^ 64) < i ∧ i < 2 ^ 64) ∨ (-(2 ^ 64) < j ∧ j < 2 ^ 64) ∨ i.natAbs.log2 + j.natAbs.log2 < 1000000) ∧ K (.int (i * j)) M
  | x, .int k => match lsOwn M x with
    | some a => -(2 ^ 63) ≤ k ∧ k < 2 ^ 63 ∧ a.length * k.toNat ≤ 16777216 ∧ K (.ls (List.replicate k.toNat a).flatten) M
    | none => False
  | _, _ => False
def rModD : DO2 := fun x y M K => match x, y with
  | .int i, .int j => 0 < j ∧ K (.int (i % j)) M
  | _, _ => False
def rFdivD : DO2 := fun x y M K => match x, y with
  | .int i, .int j => (0 < j ∧ j < 1073741824) ∧ K (.int (i / j)) M
  | _, _ => False
def rPowD : DO2 := fun x y M K => match x, y with
  | .int i, .int j => (0 ≤ j ∧ j ≤ 1000000 ∧ i.natAbs < 2 ^ 64) ∧ K (.int (i ^ j.toNat)) M
  | _, _ => False
section
variable {X : Cx}
theorem opd_add : OpD X (binaryOp .Add) rAddD := by
  intro O F A H σ Γ vs T M K v1 v2 d1 d2 s i1 i2 h
  have rest : (match lsOwn M d1, lsOwn M d2 with | some a, some b => a.length + b.length ≤ 16777216 ∧ K (.ls (a ++ b)) M | _, _ => False) → bO X (binaryOp .Add) v1 v2 H (Post X O σ Γ vs T K) := by
    intro h
    cases e1 : lsOwn M d1 with
    | none => rw [e1] at h; exact h.elim
    | some a =>
      cases e2 : lsOwn M d2 with
      | none => rw [e1, e2] at h; exact h.elim
      | some b =>
        rw [e1, e2] at h
        obtain ⟨hz, k⟩ := h
        obtain ⟨p, xs, rfl, hp, q1⟩ := s.own i1 e1
        obtain ⟨r, ys, rfl, hr, q2⟩ := s.own i2 e2
        refine bO_of op_cat ⟨p, r, xs, ys, rfl, rfl, hp, hr, ?_, post_ls s (Paired.app q1 q2) k⟩
        rw [q1.len, q2.len, sizeLine_eq]
        exact hz
  cases d1 with
  | int i =>
    cases d2 with
    | int j =>
      rw [is_int i1, is_int i2]
      exact bO_of op_add ⟨i, j, rfl, rfl, post_c s (.int _) h⟩
    | _ => exact rest h
  | str a =>
    cases d2 with
    | str b =>
      obtain ⟨hz, k⟩ := h
      have a1 := is_asc i1
      have a2 := is_asc i2
      rw [is_str i1, is_str i2]
      refine bO_of op_add_str ⟨SS a, SS b, rfl, rfl, ?_, ?_⟩
      · rw [len_SS, len_SS, sizeLine_eq]
        exact hz
      · rw [app_SS]
        exact post_c s (.str _ (a1.app a2)) k
    | _ => exact rest h
  | tp a =>
    cases d2 with
    | tp b =>
      obtain ⟨hz, k⟩ := h
      obtain ⟨p, xs, rfl, hp, q1⟩ := s.tup i1 rfl
      obtain ⟨r, ys, rfl, hr, q2⟩ := s.tup i2 rfl
      refine bO_of op_catA ⟨p, r, xs, ys, rfl, rfl, hp, hr, ?_, fun z => ?_, fun _ z => ?_, fun _ _ => post_tp s (Paired.app q1 q2) k⟩
      · rw [q1.len, q2.len, sizeLine_eq]
        exact hz
      · subst z
        cases q1
        exact post_c s i2 k
      · subst z
        cases q2
        rw [List.append_nil] at k
        exact post_c s i1 k
    | _ => exact rest h
  | _ => exact rest h
theorem opd_sub : OpD X (binaryOp .Sub) rSubD := by
  intro O F A H σ Γ vs T M K v1 v2 d1 d2 s i1 i2 h
  cases d1 with
  | int i =>
    cases d2 with
    | int j =>
      rw [is_int i1, is_int i2]
      exact bO_of op_sub ⟨i, j, rfl, rfl, post_c s (.int _) h⟩
    | _ => exact h.elim
  | _ => exact h.elim
theorem opd_mul : OpD X (binaryOp .Mult) rMulD := by
  intro O F A H σ Γ vs T M K v1 v2 d1 d2 s i1 i2 h
  cases d2 with
  | int j =>
    have rest : (match lsOwn M d1 with | some a => -(2 ^ 63) ≤ j ∧ j < 2 ^ 63 ∧ a.length * j.toNat ≤ 16777216 ∧ K (.ls (List.replicate j.toNat a).flatten) M | none => False) → bO X (binaryOp .Mult) v1 v2 H (Post X O σ Γ vs T K) := by
      intro h
      cases e1 : lsOwn M d1 with
      | none => rw [e1] at h; exact h.elim
      | some a =>
        rw [e1] at h
        obtain ⟨h1, h2, hz, k⟩ := h
        obtain ⟨p, xs, rfl, hp, q1⟩ := s.own i1 e1
        rw [is_int i2]
        refine bO_of op_rep ⟨p, j, xs, rfl, rfl, hp, h1, h2, ?_, post_ls s (Paired.flat q1 _) k⟩
        rw [q1.len, sizeLine_eq]
        exact hz
    cases d1 with
    | int i =>
      obtain ⟨hz, k⟩ := h
      rw [is_int i1, is_int i2]
      rcases hz with hz | hz | hz
      · exact bO_of op_mul ⟨i, j, rfl, rfl, .inl hz, post_c s (.int _) k⟩
      · exact bO_of op_mul ⟨i, j, rfl, rfl, .inr hz, post_c s (.int _) k⟩
      · exact bO_of op_mulW ⟨i, j, rfl, rfl, hz, post_c s (.int _) k⟩
    | _ => exact rest h
  | _ => cases d1 <;> exact h.elim
theorem opd_mod : OpD X (binaryOp .Mod) rModD := by
  intro O F A H σ Γ vs T M K v1 v2 d1 d2 s i1 i2 h
  cases d1 with
  | int i =>
    cases d2 with
    | int j =>
      obtain ⟨hz, k⟩ := h
      rw [is_int i1, is_int i2]
      exact bO_of op_mod ⟨i, j, rfl, rfl, hz, post_c s (.int _) k⟩
    | _ => exact h.elim
  | _ => exact h.elim
theorem opd_fdiv : OpD X (binaryOp .FloorDiv) rFdivD := by
  intro O F A H σ Γ vs T M K v1 v2 d1 d2 s i1 i2 h
  cases d1 with
  | int i =>
    cases d2 with
    | int j =>
      obtain ⟨hz, k⟩ := h
      rw [is_int i1, is_int i2]
      exact bO_of op_fdiv ⟨i, j, rfl, rfl, hz, post_c s (.int _) k⟩
    | _ => exact h.elim
  | _ => exact h.elim
theorem opd_pow : OpD X (binaryOp .Pow) rPowD := by
  intro O F A H σ Γ vs T M K v1 v2 d1 d2 s i1 i2 h
  cases d1 with
  | int i =>
    cases d2 with
    | int j =>
      obtain ⟨hz, k⟩ := h
      rw [is_int i1, is_int i2]
      exact bO_of op_pow ⟨i, j, rfl, rfl, hz, post_c s (.int _) k⟩
    | _ => exact h.elim
  | _ => exact h.elim
end
end L3

namespace L3
open PySem PySem.Spec PyProof.Rows L2 Evl
open Classical

/-! ### equality of data -/
/-- plain data to a depth -/
def Pl : Nat → D → Prop
  | _, .non | _, .bl _ | _, .int _ | _, .str _ => True
  | n + 1, .ls l | n + 1, .tp l => ∀ d ∈ l, Pl n d
  | _, _ => False
/-- True is 1, False is 0 -/
def nrm : Nat → D → D
  | _, .bl b => .int (if b then 1 else 0)
  | n + 1, .ls l => .ls (l.map (nrm n))
  | n + 1, .tp l => .tp (l.map (nrm n))
  | _, d => d
def toP : Nat → D → PyData
  | _, .bl b => .bool b
  | _, .int i => .int i
  | _, .str l => .str (SS l)
  | n + 1, .ls l => .list (l.map (toP n))
  | n + 1, .tp l => .tuple (l.map (toP n))
  | _, _ => .none
theorem pl_non (n : Nat) : Pl n .non = True := by cases n <;> rfl
theorem pl_bl (n : Nat) (b : Bool) : Pl n (.bl b) = True := by cases n <;> rfl
theorem pl_int (n : Nat) (i : Int) : Pl n (.int i) = True := by cases n <;> rfl
theorem pl_str (n : Nat) (l : List Nat) : Pl n (.str l) = True := by cases n <;> rfl
theorem pl_ls (n : Nat) (l : List D) : Pl (n + 1) (.ls l) = ∀ d ∈ l, Pl n d := rfl
theorem pl_tp (n : Nat) (l : List D) : Pl (n + 1) (.tp l) = ∀ d ∈ l, Pl n d := rfl
theorem nrm_non (n : Nat) : nrm n .non = .non := by cases n <;> rfl
theorem nrm_bl (n : Nat) (b : Bool) : nrm n (.bl b) = .int (if b then 1 else 0) := by cases n <;> rfl
theorem nrm_int (n : Nat) (i : Int) : nrm n (.int i) = .int i := by cases n <;> rfl
theorem nrm_str (n : Nat) (l : List Nat) : nrm n (.str l) = .str l := by cases n <;> rfl
theorem nrm_ls (n : Nat) (l : List D) : nrm (n + 1) (.ls l) = .ls (l.map (nrm n)) := rfl
theorem nrm_tp (n : Nat) (l : List D) : nrm (n + 1) (.tp l) = .tp (l.map (nrm n)) := rfl
theorem toP_non (n : Nat) : toP n .non = .none := by cases n <;> rfl
theorem toP_bl (n : Nat) (b : Bool) : toP n (.bl b) = .bool b := by cases n <;> rfl
theorem toP_int (n : Nat) (i : Int) : toP n (.int i) = .int i := by cases n <;> rfl
theorem toP_str (n : Nat) (l : List Nat) : toP n (.str l) = .str (SS l) := by cases n <;> rfl

theorem eqv_nrm : ∀ (n : Nat) (a b : D), Pl n a → Pl n b → (PyData.eqv (toP n a) (toP n b) = true ↔ nrm n a = nrm n b) := by
  have str_eq : ∀ x y : List Nat, (SS x == SS y) = true ↔ x = y := fun x y => by
    rw [beq_iff_eq]
    exact ⟨SS_inj, fun e => by rw [e]⟩
  intro n
  induction n with
  | zero =>
    intro a b ha hb
    cases a <;> cases b <;> first | exact ha.elim | exact hb.elim | (simp [toP, nrm, PyData.eqv]; done) | (simp [toP, nrm, PyData.eqv, str_eq]; done) | (simp [toP, nrm, PyData.eqv]; split <;> split <;> simp_all)
  | succ n ih =>
    have all : ∀ (xs ys : List D), (∀ d ∈ xs, Pl n d) → (∀ d ∈ ys, Pl n d) → (PyData.eqvAll (xs.map (toP n)) (ys.map (toP n)) = true ↔ xs.map (nrm n) = ys.map (nrm n)) := by
      intro xs
      induction xs with
      | nil =>
        intro ys _ _
        cases ys <;> simp [PyData.eqvAll]
      | cons x xs ihx =>
        intro ys h1 h2
        cases ys with
        | nil => simp [PyData.eqvAll]
        | cons y ys =>
          rw [List.map_cons, List.map_cons, List.map_cons, List.map_cons]
          unfold PyData.eqvAll
          rw [Bool.and_eq_true, ih x y (h1 x List.mem_cons_self) (h2 y List.mem_cons_self), ihx ys (fun d hd => h1 d (List.mem_cons_of_mem _ hd)) (fun d hd => h2 d (List.mem_cons_of_mem _ hd)), List.cons.injEq]
    intro a b ha hb
    cases a <;> cases b <;> first
      | exact ha.elim
      | exact hb.elim
      | (simp [toP, nrm, PyData.eqv]; done)
      | (simp [toP, nrm, PyData.eqv, str_eq]; done)
      | (rename_i l m; simp only [toP, nrm, PyData.eqv, D.ls.injEq]; exact all l m ha hb)
      | (rename_i l m; simp only [toP, nrm, PyData.eqv, D.tp.injEq]; exact all l m ha hb)
      | (simp [toP, nrm, PyData.eqv]; split <;> split <;> simp_all)

theorem asc_ok {l : List Nat} (h : Asc l) : PyData.strOk (SS l) = true := by
  unfold PyData.strOk
  rw [← Array.all_toList]
  exact List.all_eq_true.mpr fun c hc => decide_eq_true (Nat.lt_trans (h c hc) (by decide))
section
variable {K : PySem.W.Frag} {mg : Str → Option Value} {A : List Addr} {F H : Hp}
theorem dp_of (ex : Ex F H) : ∀ (n : Nat) (v : V) (d : D), Pl n d → Is K mg A F v d → Dp K H v (toP n d) ∧ (toP n d).canLay0 = true ∧ (toP n d).depth ≤ n := by
  have base : ∀ (n : Nat) (v : V) (d : D), (∃ b, d = .bl b) ∨ (∃ i, d = .int i) ∨ (∃ l, d = .str l) ∨ d = .non → Is K mg A F v d → Dp K H v (toP n d) ∧ (toP n d).canLay0 = true ∧ (toP n d).depth ≤ n := by
    intro n v d h i
    rcases h with ⟨b, rfl⟩ | ⟨b, rfl⟩ | ⟨b, rfl⟩ | rfl
    · rw [is_bl i, toP_bl]
      exact ⟨.bl b, by simp [PyData.canLay0], by simp [PyData.depth]⟩
    · rw [is_int i, toP_int]
      exact ⟨.int b, by simp [PyData.canLay0], by simp [PyData.depth]⟩
    · have ha := is_asc i
      rw [is_str i, toP_str]
      exact ⟨.str _, by simp [PyData.canLay0, asc_ok ha], by simp [PyData.depth]⟩
    · rw [is_non i, toP_non]
      exact ⟨.non, by simp [PyData.canLay0], by simp [PyData.depth]⟩
  intro n
  induction n with
  | zero =>
    intro v d hp i
    cases d with
    | bl b => exact base 0 v _ (.inl ⟨b, rfl⟩) i
    | int b => exact base 0 v _ (.inr (.inl ⟨b, rfl⟩)) i
    | str b => exact base 0 v _ (.inr (.inr (.inl ⟨b, rfl⟩))) i
    | non => exact base 0 v _ (.inr (.inr (.inr rfl))) i
    | _ => exact hp.elim
  | succ n ih =>
    have all : ∀ (xs : List V) (ds : List D), (∀ d ∈ ds, Pl n d) → IsL K mg A F xs ds → DpAll K H xs (ds.map (toP n)) ∧ PyData.canLayAll0 (ds.map (toP n)) = true ∧ PyData.depthAll (ds.map (toP n)) ≤ n := by
      intro xs ds hp h
      induction h with
      | nil => exact ⟨.nil, by simp [PyData.canLayAll0], by simp [PyData.depthAll]⟩
      | @cons x d xs ds r t ih2 =>
        obtain ⟨h1, h2, h3⟩ := ih x d (hp d List.mem_cons_self) r
        obtain ⟨g1, g2, g3⟩ := ih2 fun d hd => hp d (List.mem_cons_of_mem _ hd)
        refine ⟨.cons h1 g1, by simp [PyData.canLayAll0, h2, g2], ?_⟩
        rw [List.map_cons]
        unfold PyData.depthAll
        omega
    intro v d hp i
    cases d with
    | bl b => exact base _ v _ (.inl ⟨b, rfl⟩) i
    | int b => exact base _ v _ (.inr (.inl ⟨b, rfl⟩)) i
    | str b => exact base _ v _ (.inr (.inr (.inl ⟨b, rfl⟩))) i
    | non => exact base _ v _ (.inr (.inr (.inr rfl))) i
    | ls l =>
      obtain ⟨a, xs, rfl, e, p⟩ := is_ls i
      obtain ⟨h1, h2, h3⟩ := all xs l hp p
      refine ⟨.lst (sq_of (ex _ _ e)) h1, by simpa [toP, PyData.canLay0] using h2, ?_⟩
      show (PyData.list (l.map (toP n))).depth ≤ n + 1
      unfold PyData.depth
      omega
    | tp l =>
      obtain ⟨a, xs, rfl, e, p⟩ := is_tp i
      obtain ⟨h1, h2, h3⟩ := all xs l hp p
      refine ⟨.tup (ex_t ex e) h1, by simpa [toP, PyData.canLay0] using h2, ?_⟩
      show (PyData.tuple (l.map (toP n))).depth ≤ n + 1
      unfold PyData.depth
      omega
    | _ => exact hp.elim
end

/-- a changing list as the plain list that it is now -/
def view (M : MM) : D → D
  | .cel k => match M[k]? with
    | some (.ls l) => .ls l
    | _ => .cel k
  | d => d
/-- x == y -/
def eqD (M : MM) (x y : D) : Prop := nrm 9 (view M x) = nrm 9 (view M y)
def rEqD' (neg : Bool) : DO2 := fun x y M K => Pl 9 (view M x) ∧ Pl 9 (view M y) ∧ K (.bl (if neg then !decide (eqD M x y) else decide (eqD M x y))) M
section
variable {X : Cx} {O : Org} {F : Hp} {A : List Addr} {H : Hp} {σ : L2.St} {Γ : G} {vs : List V} {T : List D} {M : MM}
theorem StOk.dp (s : StOk X O F A H σ Γ vs T M) {v : V} {d : D} (i : Is X.K X.mg A F v d) (hp : Pl 9 (view M d)) : Dp X.K H v (toP 9 (view M d)) ∧ SeqAt.shaped (toP 9 (view M d)) = true := by
  have fin : ∀ {F' : Hp} {e : D}, Ex F' H → Is X.K X.mg A F' v e → Pl 9 e → Dp X.K H v (toP 9 e) ∧ SeqAt.shaped (toP 9 e) = true := by
    intro F' e ex i hp
    obtain ⟨h1, h2, h3⟩ := dp_of ex 9 v e hp i
    refine ⟨h1, ?_⟩
    unfold SeqAt.shaped
    rw [h2, decide_eq_true (show (toP 9 e).depth ≤ 64 by omega)]
    rfl
  cases d with
  | cel k =>
    have hv : view M (.cel k) = (match M[k]? with | some (.ls l) => .ls l | _ => .cel k) := rfl
    cases q : M[k]? with
    | none =>
      rw [hv, q] at hp
      exact hp.elim
    | some m =>
      cases m with
      | ls l =>
        have e : view M (.cel k) = .ls l := by rw [hv, q]
        rw [e] at hp ⊢
        obtain ⟨a, xs, rfl, e3, p⟩ := s.own i (l := l) (show (match M[k]? with | some (.ls l) => some l | _ => none) = some l by rw [q])
        obtain ⟨n, hn⟩ : ∃ n, n = 8 := ⟨8, rfl⟩
        exact fin (F' := upd F a (.lst xs)) (fun b o hb => by
          by_cases z : b = a
          · subst z
            rw [upd_same] at hb
            rw [← hb]
            exact e3
          · rw [upd_ne z] at hb
            exact s.exH b o hb) (Is.lsL upd_same (p.mono (fun b o hb => by
          by_cases z : b = a
          · subst z
            have := s.exH b o hb
            rw [e3] at this
            rw [upd_same, this]
          · rw [upd_ne z]
            exact hb) (List.prefix_refl _))) hp
      | _ =>
        rw [hv, q] at hp
        exact hp.elim
  | _ => exact fin s.exH i hp
theorem opd_eqG (hu : X.A.units + 64 < cLine) : OpD X (compareOp .Eq) (rEqD' false) := by
  intro O F A H σ Γ vs T M K v1 v2 d1 d2 s i1 i2 h
  obtain ⟨p1, p2, k⟩ := h
  obtain ⟨h1, s1⟩ := s.dp i1 p1
  obtain ⟨h2, s2⟩ := s.dp i2 p2
  refine bO_of (op_eqD hu) ⟨_, _, h1, h2, s1, s2, ?_⟩
  have e : PyData.eqv (toP 9 (view M d1)) (toP 9 (view M d2)) = decide (eqD M d1 d2) := by
    rw [Bool.eq_iff_iff, eqv_nrm 9 _ _ p1 p2, decide_eq_true_eq]
    exact Iff.rfl
  rw [e]
  exact post_c s (.bl _) k
theorem opd_neG (hu : X.A.units + 64 < cLine) : OpD X (compareOp .NotEq) (rEqD' true) := by
  intro O F A H σ Γ vs T M K v1 v2 d1 d2 s i1 i2 h
  obtain ⟨p1, p2, k⟩ := h
  obtain ⟨h1, s1⟩ := s.dp i1 p1
  obtain ⟨h2, s2⟩ := s.dp i2 p2
  refine bO_of (op_neD hu) ⟨_, _, h1, h2, s1, s2, ?_⟩
  have e : PyData.eqv (toP 9 (view M d1)) (toP 9 (view M d2)) = decide (eqD M d1 d2) := by
    rw [Bool.eq_iff_iff, eqv_nrm 9 _ _ p1 p2, decide_eq_true_eq]
    exact Iff.rfl
  rw [e]
  exact post_c s (.bl _) k
end
end L3

namespace L3
open PySem PySem.Spec PyProof.Rows L2 Evl
open Classical

/-! ### order -/
def rOrdD (fi : Int → Int → Bool) (fs : List Nat → List Nat → Bool) : DO2 := fun x y M K => match x, y with
  | .int i, .int j => K (.bl (fi i j)) M
  | .str a, .str b => K (.bl (fs a b)) M
  | _, _ => False
abbrev rLtD : DO2 := rOrdD (fun i j => decide (i < j)) fun a b => decide (a < b)
abbrev rLeD : DO2 := rOrdD (fun i j => decide (i ≤ j)) fun a b => !decide (b < a)
abbrev rGtD : DO2 := rOrdD (fun i j => decide (j < i)) fun a b => decide (b < a)
abbrev rGeD : DO2 := rOrdD (fun i j => decide (j ≤ i)) fun a b => !decide (a < b)
section
variable {X : Cx}
theorem opd_ord {op : CmpOp} {fi : Int → Int → Bool} {fs : List Nat → List Nat → Bool} (h1 : OpR X (compareOp op) (rI0 fun i j => .bl (fi i j))) (h2 : OpR X (compareOp op) (fun x y H Q => ∃ i j, x = .str i ∧ y = .str j ∧ Q (.bl (fs i.cps.toList j.cps.toList)) H)) :
    OpD X (compareOp op) (rOrdD fi fs) := by
  intro O F A H σ Γ vs T M K v1 v2 d1 d2 s i1 i2 h
  cases d1 with
  | int i =>
    cases d2 with
    | int j =>
      rw [is_int i1, is_int i2]
      exact bO_of h1 ⟨i, j, rfl, rfl, post_c s (.bl _) h⟩
    | _ => exact h.elim
  | str i =>
    cases d2 with
    | str j =>
      rw [is_str i1, is_str i2]
      exact bO_of h2 ⟨SS i, SS j, rfl, rfl, post_c s (.bl _) h⟩
    | _ => exact h.elim
  | _ => exact h.elim
theorem opd_lt : OpD X (compareOp .Lt) rLtD := opd_ord op_lt fun pins s σ H x y v u Q I r1 r2 ⟨i, j, a, b, q⟩ => op_lt_str pins s σ H x y v u Q I r1 r2 ⟨i, j, a, b, q⟩
theorem opd_le : OpD X (compareOp .LtE) rLeD := opd_ord op_le fun pins s σ H x y v u Q I r1 r2 ⟨i, j, a, b, q⟩ => op_le_str pins s σ H x y v u Q I r1 r2 ⟨i, j, a, b, q⟩
theorem opd_gt : OpD X (compareOp .Gt) rGtD := opd_ord op_gt fun pins s σ H x y v u Q I r1 r2 ⟨i, j, a, b, q⟩ => op_gt_str pins s σ H x y v u Q I r1 r2 ⟨i, j, a, b, q⟩
theorem opd_ge : OpD X (compareOp .GtE) rGeD := opd_ord op_ge fun pins s σ H x y v u Q I r1 r2 ⟨i, j, a, b, q⟩ => op_ge_str pins s σ H x y v u Q I r1 r2 ⟨i, j, a, b, q⟩
end

/-! ### is None -/
def isNon : D → Bool
  | .non => true
  | _ => false
theorem isNon_of {K : PySem.W.Frag} {mg : Str → Option Value} {A : List Addr} {F : Hp} {v : V} {d : D} (h : Is K mg A F v d) : decide (v = .non) = isNon d := by
  cases h <;> simp [isNon]
def rIsN' (neg : Bool) : DO2 := fun x y M K => y = .non ∧ K (.bl (if neg then !isNon x else isNon x)) M
section
variable {X : Cx}
theorem opd_isN : OpD X (compareOp .Is) (rIsN' false) := by
  intro O F A H σ Γ vs T M K v1 v2 d1 d2 s i1 i2 h
  obtain ⟨rfl, k⟩ := h
  rw [is_non i2]
  exact bO_of op_isN ⟨rfl, by rw [isNon_of i1]; exact post_c s (.bl _) k⟩
theorem opd_notN : OpD X (compareOp .IsNot) (rIsN' true) := by
  intro O F A H σ Γ vs T M K v1 v2 d1 d2 s i1 i2 h
  obtain ⟨rfl, k⟩ := h
  rw [is_non i2]
  exact bO_of op_notN ⟨rfl, by rw [isNon_of i1]; exact post_c s (.bl _) k⟩
end

/-! ### in -/
def flatD : D → Prop
  | .non | .bl _ | .int _ | .str _ => True
  | _ => False
/-- a in b, texts -/
def inS (a b : List Nat) : Bool := match a with
  | [c] => decide (c ∈ b)
  | a => !(Builtin.Str.occurrences (SS b) (SS a) 0 b.length 1).isEmpty
def rInD (neg : Bool) : DO2 := fun x y M K => match x, y with
  | .str a, .str b => K (.bl (if neg then !inS a b else inS a b)) M
  | x, y => match sqOf M y with
    | some l => flatD x ∧ (∀ d ∈ l, flatD d) ∧ K (.bl (if neg then !decide (nrm 0 x ∈ l.map (nrm 0)) else decide (nrm 0 x ∈ l.map (nrm 0)))) M
    | none => False
section
variable {K : PySem.W.Frag} {mg : Str → Option Value} {A : List Addr} {F : Hp}
theorem flat_of {v : V} {d : D} (h : Is K mg A F v d) (f : flatD d) : flatV v = true := by
  cases h <;> first | rfl | exact f.elim
theorem flats_of : ∀ {vs : List V} {ds : List D}, IsL K mg A F vs ds → (∀ d ∈ ds, flatD d) → vs.all flatV = true
  | _, _, .nil, _ => rfl
  | _, _, .cons r t, f => by
    rw [List.all_cons, flat_of r (f _ List.mem_cons_self), flats_of t fun d hd => f d (List.mem_cons_of_mem _ hd)]
    rfl
theorem eqV_of {v w : V} {d e : D} (h : Is K mg A F v d) (g : Is K mg A F w e) (f : flatD d) (f' : flatD e) : eqV v w = decide (nrm 0 d = nrm 0 e) := by
  have se : ∀ x y : List Nat, (SS x == SS y) = decide (x = y) := fun x y => by
    rw [Bool.eq_iff_iff, beq_iff_eq, decide_eq_true_eq]
    exact ⟨SS_inj, fun e => by rw [e]⟩
  cases d with
  | non => rw [is_non h]; cases e with
    | non => rw [is_non g]; simp [eqV, nrm]
    | bl b => rw [is_bl g]; simp [eqV, nrm]
    | int b => rw [is_int g]; simp [eqV, nrm]
    | str b => rw [is_str g]; simp [eqV, nrm]
    | _ => exact f'.elim
  | bl a => rw [is_bl h]; cases e with
    | non => rw [is_non g]; simp [eqV, nrm]
    | bl b => rw [is_bl g]; cases a <;> cases b <;> simp [eqV, nrm]
    | int b => rw [is_int g]; simp only [eqV, nrm, D.int.injEq]; cases a <;> (rw [Bool.eq_iff_iff]; simp)
    | str b => rw [is_str g]; simp [eqV, nrm]
    | _ => exact f'.elim
  | int a => rw [is_int h]; cases e with
    | non => rw [is_non g]; simp [eqV, nrm]
    | bl b => rw [is_bl g]; simp only [eqV, nrm, D.int.injEq]; cases b <;> (rw [Bool.eq_iff_iff]; simp)
    | int b => rw [is_int g]; simp only [eqV, nrm, D.int.injEq]; rw [Bool.eq_iff_iff]; simp
    | str b => rw [is_str g]; simp [eqV, nrm]
    | _ => exact f'.elim
  | str a => rw [is_str h]; cases e with
    | non => rw [is_non g]; simp [eqV, nrm]
    | bl b => rw [is_bl g]; simp [eqV, nrm]
    | int b => rw [is_int g]; simp [eqV, nrm]
    | str b => rw [is_str g]; simp only [eqV, nrm, D.str.injEq]; exact se a b
    | _ => exact f'.elim
  | _ => exact f.elim
theorem inV_of {w : V} {e : D} (g : Is K mg A F w e) (f' : flatD e) : ∀ {vs : List V} {ds : List D}, IsL K mg A F vs ds → (∀ d ∈ ds, flatD d) → inV w vs = decide (nrm 0 e ∈ ds.map (nrm 0))
  | _, _, .nil, _ => by simp [inV]
  | _, _, .cons (a := v) (b := d) r t, f => by
    have ih := inV_of g f' t fun d hd => f d (List.mem_cons_of_mem _ hd)
    unfold inV at ih ⊢
    rw [List.any_cons, ih, eqV_of r g (f _ List.mem_cons_self) f', Bool.eq_iff_iff, Bool.or_eq_true, decide_eq_true_eq, decide_eq_true_eq, decide_eq_true_eq, List.map_cons, List.mem_cons]
    exact ⟨fun h => h.imp_left Eq.symm, fun h => h.imp_left Eq.symm⟩
end
section
variable {X : Cx}
theorem inS_one (c : Nat) (b : List Nat) : inS [c] b = decide (c ∈ b) := rfl
theorem opd_in : OpD X (compareOp .In) (rInD false) := by
  intro O F A H σ Γ vs T M K v1 v2 d1 d2 s i1 i2 h
  have rest : (match sqOf M d2 with | some l => flatD d1 ∧ (∀ d ∈ l, flatD d) ∧ K (.bl (decide (nrm 0 d1 ∈ l.map (nrm 0)))) M | none => False) → bO X (compareOp .In) v1 v2 H (Post X O σ Γ vs T K) := by
    intro h
    cases e : sqOf M d2 with
    | none => rw [e] at h; exact h.elim
    | some l =>
      rw [e] at h
      obtain ⟨f1, f2, k⟩ := h
      obtain ⟨a, xs, rfl, hq, p⟩ := s.seq i2 e
      refine bO_of op_in_seq ⟨a, xs, rfl, hq, flat_of i1 f1, flats_of p f2, ?_⟩
      show Post X O σ Γ vs T K (.bl (inV v1 xs)) H
      rw [inV_of i1 f1 p f2]
      exact post_c s (.bl _) k
  cases d1 with
  | str a =>
    cases d2 with
    | str b =>
      have h : K (.bl (inS a b)) M := h
      rw [is_str i1, is_str i2]
      have go : bO X (compareOp .In) (.str (SS a)) (.str (SS b)) H (Post X O σ Γ vs T K) := by
        cases a with
        | nil =>
          refine bO_of op_in_str ⟨SS [], SS b, rfl, rfl, ?_⟩
          rw [len_SS]
          exact post_c s (.bl _) h
        | cons c r =>
          cases r with
          | nil => exact bO_of op_in_sign ⟨c, SS b, rfl, rfl, by rw [cps_SS]; refine post_c s (.bl _) ?_; exact h⟩
          | cons c2 r2 =>
            refine bO_of op_in_str ⟨SS (c :: c2 :: r2), SS b, rfl, rfl, ?_⟩
            rw [len_SS]
            exact post_c s (.bl _) h
      exact go
    | _ => exact rest h
  | _ => exact rest h
theorem opd_notIn : OpD X (compareOp .NotIn) (rInD true) := by
  intro O F A H σ Γ vs T M K v1 v2 d1 d2 s i1 i2 h
  have rest : (match sqOf M d2 with | some l => flatD d1 ∧ (∀ d ∈ l, flatD d) ∧ K (.bl (!decide (nrm 0 d1 ∈ l.map (nrm 0)))) M | none => False) → bO X (compareOp .NotIn) v1 v2 H (Post X O σ Γ vs T K) := by
    intro h
    cases e : sqOf M d2 with
    | none => rw [e] at h; exact h.elim
    | some l =>
      rw [e] at h
      obtain ⟨f1, f2, k⟩ := h
      obtain ⟨a, xs, rfl, hq, p⟩ := s.seq i2 e
      refine bO_of op_notIn_seq ⟨a, xs, rfl, hq, flat_of i1 f1, flats_of p f2, ?_⟩
      show Post X O σ Γ vs T K (.bl (!inV v1 xs)) H
      rw [inV_of i1 f1 p f2]
      exact post_c s (.bl _) k
  cases d1 with
  | str a =>
    cases d2 with
    | str b =>
      have h : K (.bl (!inS a b)) M := h
      rw [is_str i1, is_str i2]
      have go : bO X (compareOp .NotIn) (.str (SS a)) (.str (SS b)) H (Post X O σ Γ vs T K) := by
        cases a with
        | nil =>
          refine bO_of op_notIn_str ⟨SS [], SS b, rfl, rfl, ?_⟩
          rw [len_SS]
          exact post_c s (.bl _) h
        | cons c r =>
          cases r with
          | nil => exact bO_of op_notIn_sign ⟨c, SS b, rfl, rfl, by rw [cps_SS]; refine post_c s (.bl _) ?_; exact h⟩
          | cons c2 r2 =>
            refine bO_of op_notIn_str ⟨SS (c :: c2 :: r2), SS b, rfl, rfl, ?_⟩
            rw [len_SS]
            exact post_c s (.bl _) h
      exact go
    | _ => exact rest h
  | _ => exact rest h
end

/-! ### subscripts -/
def bI (X : Cx) : R2 := fun x y H Q => ∀ (value slice : Expr) pins s σ v u, Inv X pins σ H s → RelV x v → RelV y u → subscripted slice false v u = operate [v, u] (getItem v u) → wpAny (model X.prog X.w) X.A (subscriptTail value slice v u) (EP X pins σ Q) X.xe s
theorem bI_ok {X : Cx} : IxR X (bI X) := fun value slice pins s σ _ _ _ v u _ I r1 r2 h hs => h value slice pins s σ v u I r1 r2 hs
theorem bI_of {X : Cx} {r : R2} {x y : V} {H : Hp} {Q : VK} (h : IxR X r) (q : r x y H Q) : bI X x y H Q := fun value slice pins s σ v u I r1 r2 hs => h value slice pins s σ H x y v u Q I r1 r2 q hs
def rIxD : DO2 := fun x y M K => match y with
  | .int i => (match x with
    | .str a => a.length ≤ 16777216 ∧ ∃ c, atI a i = some c ∧ K (.str [c]) M
    | x => match sqOf M x with
      | some l => ∃ d, atI l i = some d ∧ K d M
      | none => False)
  | _ => False
theorem atI_of {K : PySem.W.Frag} {mg : Str → Option Value} {A : List Addr} {F : Hp} {xs : List V} {ds : List D} (p : IsL K mg A F xs ds) {i : Int} {d : D} (h : atI ds i = some d) : ∃ v, atI xs i = some v ∧ Is K mg A F v d := by
  unfold atI at h ⊢
  rw [p.len]
  cases e : ixN ds.length i with
  | none => rw [e] at h; cases h
  | some j =>
    rw [e] at h
    exact p.some (show ds[j]? = some d from h)
theorem atI_mem {α : Type} {l : List α} {i : Int} {c : α} (h : atI l i = some c) : c ∈ l := by
  unfold atI at h
  cases e : ixN l.length i with
  | none => rw [e] at h; cases h
  | some j =>
    rw [e] at h
    exact List.mem_of_getElem? (show l[j]? = some c from h)
section
variable {X : Cx} {a b e : Expr} {ta tb te : DE} {pos p2 : Pos}
theorem se_ix (sa : SE X a ta) (sb : SE X b tb) (hs : PlainIx b := by exact fun _ _ => rfl) : SE X (.Subscript a b pos) (dOp rIxD ta tb) := by
  intro W tk O F A H σ Γ vs T M K R s lf h
  refine bE_of (pe_ix bI_ok bE_ok bE_ok hs) ?_
  refine two sa sb tk s lf h fun v1 v2 d1 d2 M2 F2 A2 H2 s i1 i2 k => ?_
  cases d2 with
  | int i =>
    rw [is_int i2]
    have rest : (match sqOf M2 d1 with | some l => ∃ d, atI l i = some d ∧ K d M2 | none => False) → bI X v1 (.int i) H2 (Post X O σ Γ vs T K) := by
      intro h
      cases e : sqOf M2 d1 with
      | none => rw [e] at h; exact h.elim
      | some l =>
        rw [e] at h
        obtain ⟨d, hd, k⟩ := h
        obtain ⟨p, xs, rfl, hq, q⟩ := s.seq i1 e
        obtain ⟨v, hv, iv⟩ := atI_of q hd
        rcases hq with hq | hq
        · exact bI_of ix_list ⟨p, xs, i, v, rfl, rfl, hq, hv, post_c s iv k⟩
        · exact bI_of ix_tup ⟨p, xs, i, v, rfl, rfl, hq, hv, post_c s iv k⟩
    cases d1 with
    | str l =>
      obtain ⟨hz, c, hc, k⟩ := k
      have ha := is_asc i1
      rw [is_str i1]
      exact bI_of ix_str ⟨SS l, i, c, rfl, rfl, by rw [len_SS, sizeLine_eq]; exact hz, hc, post_c s (.str [c] fun x hx => by
        have e : x = c := by simpa using hx
        rw [e]
        exact ha c (atI_mem hc)) k⟩
    | _ => exact rest k
  | _ => exact k.elim

end
/-- slices -/
def bSl (X : Cx) : V → Option Int → Option Int → Hp → VK → Prop := fun x lo hi H Q => ∃ r, SlR X r ∧ r x lo hi H Q
theorem bSl_ok {X : Cx} : SlR X (bSl X) := by
  intro pins s σ H x v vl vu lo hi sl Q I rx hs pl pu h
  obtain ⟨r, hr, q⟩ := h
  exact hr pins s σ H x v vl vu lo hi sl Q I rx hs pl pu q
abbrev DP := G → MM → (Option Int → MM → Prop) → Rx → Prop
def PostO (X : Cx) (O : Org) (σ : L2.St) (Γ : G) (vs : List V) (T : List D) (K : Option Int → MM → Prop) : Option Int → Hp → Prop := fun b H' => ∃ M' F' A', StOk X O F' A' H' σ Γ vs T M' ∧ K b M'
structure BP (X : Cx) (e : Option Expr) (σ : L2.St) (H : Hp) (Q : Option Int → Hp → Prop) : Prop where
  go : ∀ pins s, Inv X pins σ H s → wpAny (model X.prog X.w) X.A (evalPart e X.env) (fun u s' => ∃ o H', Inv X pins σ H' s' ∧ IsPart u o ∧ Q o H') X.xe s
abbrev bP (X : Cx) (e : Option Expr) : TO := fun σ H Q => BP X e σ H Q
theorem bP_ok {X : Cx} {e : Option Expr} : PO X e (bP X e) := ⟨fun pins s _ _ _ I h => h.go pins s I⟩
theorem bP_of {X : Cx} {e : Option Expr} {t : TO} {σ : L2.St} {H : Hp} {Q : Option Int → Hp → Prop} (h : PO X e t) (q : t σ H Q) : bP X e σ H Q := ⟨fun pins s I => h.run pins s σ H Q I q⟩
theorem bP_mono {X : Cx} {e : Option Expr} {σ : L2.St} {H : Hp} {Q Q' : Option Int → Hp → Prop} (h : bP X e σ H Q) (q : ∀ v H', Q v H' → Q' v H') : bP X e σ H Q' := ⟨fun pins s I =>
  thn (h.go pins s I) fun _ _ ⟨v, H', I', r, z⟩ => ⟨v, H', I', r, q v H' z⟩⟩
/-- a part of a slice -/
def SP3 (X : Cx) (e : Option Expr) (t : DP) : Prop := ∀ (W : WX), Takes X W → ∀ O F A H σ Γ vs T M K R, StOk X O F A H σ Γ vs T M → Lift X W O vs T R → t Γ M K R → bP X e σ H (PostO X O σ Γ vs T K)
def dNo : DP := fun _ M K _ => K none M
def dPart (t : DE) : DP := fun Γ M K R => t Γ M (fun d M1 => match d with
  | .int i => K (some i) M1
  | _ => False) R
def rSlD : D → Option Int → Option Int → MM → Kd → Prop := fun x lo hi M K => match x with
  | .str a => a.length ≤ 16777216 ∧ K (.str (cut a lo hi)) M
  | .tp a => K (.tp (cut a lo hi)) M
  | x => match lsOf M x with
    | some a => K (.ls (cut a lo hi)) M
    | none => False
def dSl (te : DE) (tl th : DP) : DE := fun Γ M K R => te Γ M (fun d M1 => tl Γ M1 (fun l M2 => th Γ M2 (fun h M3 => rSlD d l h M3 K) R) R) R
section
variable {X : Cx} {a b e : Expr} {ta tb te : DE} {tl th : DP} {lo hi : Option Expr} {pos p2 : Pos}
theorem so_no : SP3 X none dNo := fun W tk O F A H σ Γ vs T M K R s lf k => bP_of po_none ⟨M, F, A, s, k⟩
theorem so_some (sa : SE X a ta) : SP3 X (some a) (dPart ta) := fun W tk O F A H σ Γ vs T M K R s lf h => bP_of (po_some bE_ok)
  (bE_mono (sa W tk O F A H σ Γ vs T M _ R s lf h) fun v H1 ⟨d, M1, F1, A1, s1, k⟩ => by
    cases d with
    | int i => exact ⟨i, is_int s1.top, M1, F1, A1, s1.pop, k⟩
    | _ => exact k.elim)
theorem cut_whole {α : Type} (xs : List α) (lo hi : Option Int) (h : HT.sIx xs.length 0 lo = 0 ∧ HT.sIx xs.length xs.length hi = xs.length) : L3.cut xs lo hi = xs := by
  unfold L3.cut
  rw [h.1, h.2, List.drop_zero, Nat.sub_zero, List.take_length]
theorem se_slice (sa : SE X e te) (sl : SP3 X lo tl) (sh : SP3 X hi th) : SE X (.Subscript e (.Slice lo hi none p2) pos) (dSl te tl th) := by
  intro W tk O F A H σ Γ vs T M K R s lf h
  refine bE_of (pe_slice bSl_ok bE_ok bP_ok bP_ok) ?_
  refine bE_mono (sa W tk O F A H σ Γ vs T M _ R s lf h) fun v H1 ⟨d, M1, F1, A1, s1, k1⟩ => ?_
  refine bP_mono (sl W tk O F1 A1 H1 σ Γ (v :: vs) (d :: T) M1 _ R s1 lf.pop k1) fun l H2 ⟨M2, F2, A2, s2, k2⟩ => ?_
  refine bP_mono (sh W tk O F2 A2 H2 σ Γ (v :: vs) (d :: T) M2 _ R s2 lf.pop k2) fun u H3 ⟨M3, F3, A3, s3, k3⟩ => ?_
  have i1 := s3.top
  have s := s3.pop
  have rest : (match lsOf M3 d with | some a => K (.ls (L3.cut a l u)) M3 | none => False) → bSl X v l u H3 (Post X O σ Γ vs T K) := by
    intro h
    cases e : lsOf M3 d with
    | none => rw [e] at h; exact h.elim
    | some a =>
      rw [e] at h
      obtain ⟨p, xs, rfl, hp, q⟩ := s.lst i1 e
      exact ⟨_, sl_list, p, xs, rfl, hp, post_ls s (q.cut l u) h⟩
  cases d with
  | str a =>
    obtain ⟨hz, k⟩ := k3
    have ha := is_asc i1
    rw [is_str i1]
    refine ⟨_, sl_str, SS a, rfl, by rw [len_SS, sizeLine_eq]; exact hz, ?_⟩
    rw [cutS_SS]
    exact post_c s (.str _ (ha.cut l u)) k
  | tp a =>
    obtain ⟨p, xs, rfl, hp, q⟩ := s.tup i1 rfl
    refine ⟨_, sl_tupA, p, xs, rfl, hp, fun z => ?_, fun _ => post_tp s (q.cut l u) k3⟩
    have k3 : K (.tp (L3.cut a l u)) M3 := k3
    rw [q.len] at z
    rw [cut_whole a l u z] at k3
    exact post_c s i1 k3
  | _ => exact rest k3
end
end L3

namespace L3
open PySem PySem.Spec PyProof.Rows L2 Evl
open Classical

/-! ### argument lists, displays -/
def aNil : DA := fun _ M K _ => K [] M
def aCons (t : DE) (u : DA) : DA := fun Γ M K R => t Γ M (fun d M1 => u Γ M1 (fun ds M2 => K (d :: ds) M2) R) R
def dTup (t : DA) : DE := fun Γ M K R => t Γ M (fun ds M1 => ds.length ≤ 16777216 ∧ K (.tp ds) M1) R
def dLst (t : DA) : DE := fun Γ M K R => t Γ M (fun ds M1 => ds.length ≤ 16777216 ∧ K (.ls ds) M1) R
/-- .. that may change -/
def dLstC (t : DA) : DE := fun Γ M K R => t Γ M (fun ds M1 => ds.length ≤ 16777216 ∧ K (.cel M1.length) (M1 ++ [.ls ds])) R
section
variable {X : Cx} {a b c e : Expr} {es : List Expr} {ta tb te : DE} {tc : DT} {t : DA} {pos : Pos} {j : Nat}
theorem sa_nil : SA X [] aNil := fun W tk O F A H σ Γ vs T M K R s lf k => bA_of pa_nil ⟨[], M, F, A, s, .nil, k⟩
theorem sa_cons (sa : SE X e te) (sr : SA X es t) (hs : starEach (e :: es) X.env = (false, eval e X.env) :: starEach es X.env := by rfl) : SA X (e :: es) (aCons te t) := fun W tk O F A H σ Γ vs T M K R s lf h =>
  bA_of (pa_cons bE_ok bA_ok hs) (bE_mono (sa W tk O F A H σ Γ vs T M _ R s lf h) fun v H1 ⟨d, M1, F1, A1, s1, k1⟩ =>
    bA_mono (sr W tk O F1 A1 H1 σ Γ (v :: vs) (d :: T) M1 _ R s1 lf.pop k1) fun ws H2 ⟨ds, M2, F2, A2, s2, p, k2⟩ => ⟨d :: ds, M2, F2, A2, s2.pop, .cons s2.top p, k2⟩)
theorem se_tup (sa : SA X es t) : SE X (.Tuple es j pos) (dTup t) := fun W tk O F A H σ Γ vs T M K R s lf h =>
  bE_of (pe_tup bA_ok) (bA_mono (sa W tk O F A H σ Γ vs T M _ R s lf h) fun ws H1 ⟨ds, M1, F1, A1, s1, p, hz, k⟩ => ⟨by rw [p.len, sizeLine_eq]; exact hz, post_tp s1 p k⟩)
theorem se_lst (sa : SA X es t) : SE X (.List es pos) (dLst t) := fun W tk O F A H σ Γ vs T M K R s lf h =>
  bE_of (pe_lst bA_ok) (bA_mono (sa W tk O F A H σ Γ vs T M _ R s lf h) fun ws H1 ⟨ds, M1, F1, A1, s1, p, hz, k⟩ => ⟨by rw [p.len, sizeLine_eq]; exact hz, post_ls s1 p k⟩)
theorem se_lstC (sa : SA X es t) : SE X (.List es pos) (dLstC t) := fun W tk O F A H σ Γ vs T M K R s lf h =>
  bE_of (pe_lst bA_ok) (bA_mono (sa W tk O F A H σ Γ vs T M _ R s lf h) fun ws H1 ⟨ds, M1, F1, A1, s1, p, hz, k⟩ => ⟨by rw [p.len, sizeLine_eq]; exact hz, post_cel s1 p k⟩)

/-! ### truth -/
def truD (M : MM) : D → Option Bool
  | .non => some false
  | .bl b => some b
  | .int i => some (i != 0)
  | .str l => if l.length ≤ 16777216 then some (!l.isEmpty) else none
  | .tp l => some (!l.isEmpty)
  | d => (lsOf M d).map fun l => !l.isEmpty
theorem isL_empty {K : PySem.W.Frag} {mg : Str → Option Value} {A : List Addr} {F : Hp} {xs : List V} {ds : List D} (p : IsL K mg A F xs ds) : xs.isEmpty = ds.isEmpty := by
  cases p <;> rfl
theorem StOk.tru {O : Org} {F : Hp} {A : List Addr} {H : Hp} {σ : L2.St} {Γ : G} {vs : List V} {T : List D} {M : MM} (s : StOk X O F A H σ Γ vs T M) {v : V} {d : D} {k : Bool} (i : Is X.K X.mg A F v d) (h : truD M d = some k) : TruV X.K v H k := by
  have rest : ((lsOf M d).map fun l => !l.isEmpty) = some k → TruV X.K v H k := by
    intro h
    cases e : lsOf M d with
    | none => rw [e] at h; cases h
    | some l =>
      rw [e] at h
      have h : (!l.isEmpty) = k := Option.some.inj h
      obtain ⟨a, xs, rfl, hq, p⟩ := s.lst i e
      exact .inl ⟨xs, hq, by rw [isL_empty p, h]⟩
  cases d with
  | non => rw [is_non i]; exact (Option.some.inj h).symm
  | bl b => rw [is_bl i]; exact (Option.some.inj h).symm
  | int b => rw [is_int i]; exact (Option.some.inj h).symm
  | str l =>
    have h : (if l.length ≤ 16777216 then some (!l.isEmpty) else none) = some k := h
    rw [is_str i]
    by_cases hz : l.length ≤ 16777216
    · rw [if_pos hz] at h
      refine ⟨by rw [len_SS, sizeLine_eq]; exact hz, ?_⟩
      rw [len_SS, ← Option.some.inj h]
      cases l <;> simp
      omega
    · rw [if_neg hz] at h
      cases h
  | tp l =>
    have h : (!l.isEmpty) = k := Option.some.inj h
    obtain ⟨a, xs, rfl, hq, p⟩ := s.tup i rfl
    exact .inr (.inl ⟨xs, hq, by rw [isL_empty p, h]⟩)
  | _ => exact rest h

/-! ### tests -/
def qTru (t : DE) : DT := fun Γ M K R => t Γ M (fun d M1 => ∃ b, truD M1 d = some b ∧ K b M1) R
def qNot (t : DT) : DT := fun Γ M K R => t Γ M (fun b M1 => K (!b) M1) R
def qAnd (t u : DT) : DT := fun Γ M K R => t Γ M (fun b M1 => if b = true then u Γ M1 K R else K false M1) R
def qOr (t u : DT) : DT := fun Γ M K R => t Γ M (fun b M1 => if b = true then K true M1 else u Γ M1 K R) R
theorem st_e (sa : SE X e te) (he : ∀ whole, isTrue e X.env whole = (do let v ← whole; standAt e.pos; holding [v] (truthy v)) := by intro _; rfl) : ST X e (qTru te) := fun W tk O F A H σ Γ vs T M K R s lf h =>
  bT_of (pt_truth bE_ok he) (bE_mono (sa W tk O F A H σ Γ vs T M _ R s lf h) fun v H1 ⟨d, M1, F1, A1, s1, b, hb, k⟩ => ⟨b, s1.tru s1.top hb, M1, F1, A1, s1.pop, k⟩)
theorem st_not (sa : ST X e tc) : ST X (.UnaryOp .Not e pos) (qNot tc) := fun W tk O F A H σ Γ vs T M K R s lf h =>
  bT_of (pt_not bT_ok) (bT_mono (sa W tk O F A H σ Γ vs T M _ R s lf h) fun b H1 ⟨M1, F1, A1, s1, k⟩ => ⟨M1, F1, A1, s1, k⟩)
theorem sw_pt (h : SW X e tc) : ST X e tc := fun W tk O F A H σ Γ vs T M K R s lf k => bT_of (PW.pt bW_ok) (h W tk O F A H σ Γ vs T M K R s lf k)
theorem sw_and1 (sa : ST X a tc) : SW X (.BoolOp .And [a] pos) tc := fun W tk O F A H σ Γ vs T M K R s lf h => bW_of (pw_and1 bT_ok) (sa W tk O F A H σ Γ vs T M K R s lf h)
theorem sw_or1 (sa : ST X a tc) : SW X (.BoolOp .Or [a] pos) tc := fun W tk O F A H σ Γ vs T M K R s lf h => bW_of (pw_or1 bT_ok) (sa W tk O F A H σ Γ vs T M K R s lf h)
theorem sw_and {tu : DT} {rest : List Expr} (sa : ST X a tc) (sb : SW X (.BoolOp .And (b :: rest) pos) tu) : SW X (.BoolOp .And (a :: b :: rest) pos) (qAnd tc tu) := fun W tk O F A H σ Γ vs T M K R s lf h =>
  bW_of (pw_and bT_ok bW_ok) (bT_mono (sa W tk O F A H σ Γ vs T M _ R s lf h) fun q H1 ⟨M1, F1, A1, s1, k⟩ => by
    cases q with
    | true => exact sb W tk O F1 A1 H1 σ Γ vs T M1 K R s1 lf k
    | false => exact ⟨M1, F1, A1, s1, k⟩)
theorem sw_or {tu : DT} {rest : List Expr} (sa : ST X a tc) (sb : SW X (.BoolOp .Or (b :: rest) pos) tu) : SW X (.BoolOp .Or (a :: b :: rest) pos) (qOr tc tu) := fun W tk O F A H σ Γ vs T M K R s lf h =>
  bW_of (pw_or bT_ok bW_ok) (bT_mono (sa W tk O F A H σ Γ vs T M _ R s lf h) fun q H1 ⟨M1, F1, A1, s1, k⟩ => by
    cases q with
    | false => exact sb W tk O F1 A1 H1 σ Γ vs T M1 K R s1 lf k
    | true => exact ⟨M1, F1, A1, s1, k⟩)

/-! ### values by tests -/
def dIf (t : DT) (ta tb : DE) : DE := fun Γ M K R => t Γ M (fun b M1 => if b = true then ta Γ M1 K R else tb Γ M1 K R) R
def dNot (t : DE) : DE := fun Γ M K R => t Γ M (fun d M1 => ∃ b, truD M1 d = some b ∧ K (.bl (!b)) M1) R
def dAnd (ta tb : DE) : DE := fun Γ M K R => ta Γ M (fun d M1 => ∃ b, truD M1 d = some b ∧ if b = true then tb Γ M1 K R else K d M1) R
def dOr (ta tb : DE) : DE := fun Γ M K R => ta Γ M (fun d M1 => ∃ b, truD M1 d = some b ∧ if b = true then K d M1 else tb Γ M1 K R) R
theorem se_if (sc : ST X c tc) (sa : SE X a ta) (sb : SE X b tb) : SE X (.IfExp c a b pos) (dIf tc ta tb) := fun W tk O F A H σ Γ vs T M K R s lf h =>
  bE_of (pe_ifExp bT_ok bE_ok bE_ok) (bT_mono (sc W tk O F A H σ Γ vs T M _ R s lf h) fun q H1 ⟨M1, F1, A1, s1, k⟩ => by
    cases q with
    | true => exact sa W tk O F1 A1 H1 σ Γ vs T M1 K R s1 lf k
    | false => exact sb W tk O F1 A1 H1 σ Γ vs T M1 K R s1 lf k)
theorem se_not (sa : SE X a ta) : SE X (.UnaryOp .Not a pos) (dNot ta) := fun W tk O F A H σ Γ vs T M K R s lf h =>
  bE_of (pe_notT bE_ok) (bE_mono (sa W tk O F A H σ Γ vs T M _ R s lf h) fun v H1 ⟨d, M1, F1, A1, s1, b, hb, k⟩ => ⟨b, s1.tru s1.top hb, post_c s1.pop (.bl _) k⟩)
theorem se_one {op : BoolOp} (sa : SE X a ta) : SE X (.BoolOp op [a] pos) ta := fun W tk O F A H σ Γ vs T M K R s lf h => bE_of (pe_one bE_ok) (sa W tk O F A H σ Γ vs T M K R s lf h)
theorem se_and {rest : List Expr} (sa : SE X a ta) (sb : SE X (.BoolOp .And (b :: rest) pos) tb) : SE X (.BoolOp .And (a :: b :: rest) pos) (dAnd ta tb) := fun W tk O F A H σ Γ vs T M K R s lf h =>
  bE_of (pe_andT bE_ok bE_ok) (bE_mono (sa W tk O F A H σ Γ vs T M _ R s lf h) fun v H1 ⟨d, M1, F1, A1, s1, q, hb, k⟩ => ⟨q, s1.tru s1.top hb, by
    cases q with
    | true => exact sb W tk O F1 A1 H1 σ Γ vs T M1 K R s1.pop lf k
    | false => exact ⟨d, M1, F1, A1, s1, k⟩⟩)
theorem se_or {rest : List Expr} (sa : SE X a ta) (sb : SE X (.BoolOp .Or (b :: rest) pos) tb) : SE X (.BoolOp .Or (a :: b :: rest) pos) (dOr ta tb) := fun W tk O F A H σ Γ vs T M K R s lf h =>
  bE_of (pe_orT bE_ok bE_ok) (bE_mono (sa W tk O F A H σ Γ vs T M _ R s lf h) fun v H1 ⟨d, M1, F1, A1, s1, q, hb, k⟩ => ⟨q, s1.tru s1.top hb, by
    cases q with
    | false => exact sb W tk O F1 A1 H1 σ Γ vs T M1 K R s1.pop lf k
    | true => exact ⟨d, M1, F1, A1, s1, k⟩⟩)
def rNegD : DE → DE := fun t Γ M K R => t Γ M (fun d M1 => match d with
  | .int i => K (.int (-i)) M1
  | _ => False) R
theorem se_neg (sa : SE X a ta) : SE X (.UnaryOp .USub a pos) (rNegD ta) := fun W tk O F A H σ Γ vs T M K R s lf h =>
  bE_of (pe_un un_neg bE_ok) (bE_mono (sa W tk O F A H σ Γ vs T M _ R s lf h) fun v H1 ⟨d, M1, F1, A1, s1, k⟩ => by
    cases d with
    | int i =>
      rw [is_int s1.top]
      exact ⟨i, rfl, post_c s1.pop (.int _) k⟩
    | _ => exact k.elim)
/-- a op b op c -/
def dChain (r r' : DO2) (ta tb tc : DE) : DE := fun Γ M K R => ta Γ M (fun d1 M1 => tb Γ M1 (fun d2 M2 => r d1 d2 M2 (fun d3 M3 => ∃ k, d3 = .bl k ∧ if k = true then tc Γ M3 (fun d4 M4 => r' d2 d4 M4 K) R else K (.bl false) M3)) R) R
end

/-! ### calls of built-ins -/
def bC (X : Cx) (f : Value) : List V → Hp → VK → Prop := fun xs H Q => ∃ r, CallR X f r ∧ r xs H Q
theorem bC_ok {X : Cx} {f : Value} : CallR X f (bC X f) := by
  intro pins s σ H xs us Q I r h
  obtain ⟨r', hr, q⟩ := h
  exact hr pins s σ H xs us Q I r q
abbrev DC := List D → MM → Kd → Prop
def CallD (X : Cx) (f : Value) (r : DC) : Prop := ∀ O F A H σ Γ vs T M K ws ds, StOk X O F A H σ Γ vs T M → IsL X.K X.mg A F ws ds → r ds M K → bC X f ws H (Post X O σ Γ vs T K)
def dCall (r : DC) (t : DA) : DE := fun Γ M K R => t Γ M (fun ds M1 => r ds M1 K) R
section
variable {X : Cx} {x : Str} {e : Expr} {es : List Expr} {t : DA} {r : DC} {id Tn : String} {p pos : Pos}
theorem se_callB (hc : CallD X (.builtin id) r) (hm : X.mg x = none) (sa : SA X (e :: es) t) (hg : Gl X x := by rfl) (hv : bootBuiltins x = some (.builtin id) := by decide +kernel) (hn : x ≠ "__name__" := by decide) (hdb : (x == ("__debug__" : Str)) = false := by decide)
    (he : starEach (e :: es) X.env = (false, eval e X.env) :: starEach es X.env := by rfl) (hpl : (backTo pos (starEach es X.env)).any (·.1) = false := by rfl) : SE X (.Call (.Name x p) (e :: es) [] pos) (dCall r t) := fun W tk O F A H σ Γ vs T M K R s lf h =>
  bE_of (pe_callB bC_ok hg hm hv bA_ok hn hdb he hpl) (bA_mono (sa W tk O F A H σ Γ vs T M _ R s lf h) fun ws H1 ⟨ds, M1, F1, A1, s1, q, k⟩ => hc O F1 A1 H1 σ Γ vs T M1 K ws ds s1 q k)
theorem se_callTy (hc : CallD X (.type Tn) r) (hm : X.mg x = none) (sa : SA X (e :: es) t) (hg : Gl X x := by rfl) (hv : bootBuiltins x = some (.type Tn) := by decide +kernel) (hn : x ≠ "__name__" := by decide) (hdb : (x == ("__debug__" : Str)) = false := by decide)
    (he : starEach (e :: es) X.env = (false, eval e X.env) :: starEach es X.env := by rfl) (hpl : (backTo pos (starEach es X.env)).any (·.1) = false := by rfl) : SE X (.Call (.Name x p) (e :: es) [] pos) (dCall r t) := fun W tk O F A H σ Γ vs T M K R s lf h =>
  bE_of (pe_callTy bC_ok hg hm hv bA_ok hn hdb he hpl) (bA_mono (sa W tk O F A H σ Γ vs T M _ R s lf h) fun ws H1 ⟨ds, M1, F1, A1, s1, q, k⟩ => hc O F1 A1 H1 σ Γ vs T M1 K ws ds s1 q k)
def rLen : DC := fun ds M K => match ds with
  | [.str l] => l.length ≤ 16777216 ∧ K (.int l.length) M
  | [d] => (match sqOf M d with
    | some l => K (.int l.length) M
    | none => False)
  | _ => False
theorem cd_len : CallD X (.builtin "len") rLen := by
  intro O F A H σ Γ vs T M K ws ds s p h
  cases p with
  | nil => exact h.elim
  | @cons v d vs' ds' i t =>
    cases t with
    | cons _ _ => cases d <;> exact h.elim
    | nil =>
      have rest : (match sqOf M d with | some l => K (.int l.length) M | none => False) → bC X (.builtin "len") [v] H (Post X O σ Γ vs T K) := by
        intro h
        cases e : sqOf M d with
        | none => rw [e] at h; exact h.elim
        | some l =>
          rw [e] at h
          obtain ⟨a, xs, rfl, hq, q⟩ := s.seq i e
          rcases hq with hq | hq
          · exact ⟨_, call_len, .ref a, xs.length, rfl, .inl ⟨xs, hq, rfl⟩, post_c s (by rw [q.len]; exact .int _) h⟩
          · exact ⟨_, call_len, .ref a, xs.length, rfl, .inr ⟨xs, hq, rfl⟩, post_c s (by rw [q.len]; exact .int _) h⟩
      cases d with
      | str l =>
        obtain ⟨hz, k⟩ := h
        rw [is_str i]
        exact ⟨_, call_len, .str (SS l), l.length, rfl, ⟨by rw [len_SS, sizeLine_eq]; exact hz, by rw [len_SS]⟩, post_c s (.int _) k⟩
      | _ => exact rest h
def rAbs : DC := fun ds M K => match ds with
  | [.int i] => K (.int (if i < 0 then -i else i)) M
  | _ => False
theorem cd_abs : CallD X (.builtin "abs") rAbs := by
  intro O F A H σ Γ vs T M K ws ds s p h
  match ds, p, h with
  | [.int i], .cons r .nil, h =>
    rw [is_int r]
    exact ⟨_, call_abs, i, rfl, post_c s (.int _) h⟩
def rMax2 : DC := fun ds M K => match ds with
  | [.int i, .int j] => K (.int (if j > i then j else i)) M
  | _ => False
theorem cd_max2 (hc : X.calm = true) : CallD X (.builtin "max") rMax2 := by
  intro O F A H σ Γ vs T M K ws ds s p h
  match ds, p, h with
  | [.int i, .int j], .cons r (.cons r2 .nil), h =>
    rw [is_int r, is_int r2]
    exact ⟨_, call_max2 hc, i, j, rfl, post_c s (.int _) h⟩
def rMin2 : DC := fun ds M K => match ds with
  | [.int i, .int j] => K (.int (if j < i then j else i)) M
  | _ => False
theorem cd_min2 (hc : X.calm = true) : CallD X (.builtin "min") rMin2 := by
  intro O F A H σ Γ vs T M K ws ds s p h
  match ds, p, h with
  | [.int i, .int j], .cons r (.cons r2 .nil), h =>
    rw [is_int r, is_int r2]
    exact ⟨_, call_min2 hc, i, j, rfl, post_c s (.int _) h⟩
def rInt1 : DC := fun ds M K => match ds with
  | [.int i] => K (.int i) M
  | [.bl b] => K (.int (if b then 1 else 0)) M
  | _ => False
theorem cd_int1 : CallD X (.type "int") rInt1 := by
  intro O F A H σ Γ vs T M K ws ds s p h
  match ds, p, h with
  | [.int i], .cons r .nil, h =>
    rw [is_int r]
    exact ⟨_, call_int1, .inl ⟨i, rfl, post_c s (.int _) h⟩⟩
  | [.bl i], .cons r .nil, h =>
    rw [is_bl r]
    exact ⟨_, call_int1, .inr ⟨i, rfl, post_c s (.int _) h⟩⟩
def rOrd : DC := fun ds M K => match ds with
  | [.str [c]] => K (.int (c : Nat)) M
  | _ => False
theorem cd_ord : CallD X (.builtin "ord") rOrd := by
  intro O F A H σ Γ vs T M K ws ds s p h
  match ds, p, h with
  | [.str [c]], .cons r .nil, h =>
    rw [is_str r]
    exact ⟨_, call_ord, SS [c], rfl, rfl, post_c s (.int _) h⟩
/-- list(xs) -/
def rListOf : DC := fun ds M K => match ds with
  | [d] => (match sqOf M d with
    | some l => K (.ls l) M
    | none => False)
  | _ => False
theorem cd_list : CallD X (.type "list") rListOf := by
  intro O F A H σ Γ vs T M K ws ds s p h
  cases p with
  | nil => exact h.elim
  | @cons v d vs' ds' i t =>
    cases t with
    | cons _ _ => exact h.elim
    | nil =>
      have h : (match sqOf M d with | some l => K (.ls l) M | none => False) := h
      cases e : sqOf M d with
      | none => rw [e] at h; exact h.elim
      | some l =>
        rw [e] at h
        obtain ⟨a, xs, rfl, hq, q⟩ := s.seq i e
        exact ⟨_, call_list_of, a, xs, rfl, hq, post_ls s q h⟩
/-- tuple(xs) -/
def rTupleOf : DC := fun ds M K => match ds with
  | [d] => (match sqOf M d with
    | some l => K (.tp l) M
    | none => False)
  | _ => False
theorem cd_tuple : CallD X (.type "tuple") rTupleOf := by
  intro O F A H σ Γ vs T M K ws ds s p h
  cases p with
  | nil => exact h.elim
  | @cons v d vs' ds' i t =>
    cases t with
    | cons _ _ => exact h.elim
    | nil =>
      have h : (match sqOf M d with | some l => K (.tp l) M | none => False) := h
      cases e : lsOf M d with
      | some l =>
        have e2 : sqOf M d = some l := by
          unfold sqOf
          rw [e]
          rfl
        rw [e2] at h
        obtain ⟨a, xs, rfl, hq, q⟩ := s.lst i e
        exact ⟨_, call_tuple_of, a, xs, rfl, .inl ⟨hq, post_tp s q h⟩⟩
      | none =>
        have e2 : sqOf M d = tpOf d := by
          unfold sqOf
          rw [e]
          rfl
        rw [e2] at h
        cases e3 : tpOf d with
        | none => rw [e3] at h; exact h.elim
        | some l =>
          rw [e3] at h
          obtain ⟨a, xs, rfl, hq, q⟩ := s.tup i e3
          refine ⟨_, call_tuple_of, a, xs, rfl, .inr ⟨hq, ?_⟩⟩
          have k : K (.tp l) M := h
          cases d with
          | tp l' =>
            have e4 : l' = l := Option.some.inj e3
            subst e4
            exact post_c s i k
          | _ => cases e3
end
end L3

namespace L3
open PySem PySem.Spec PyProof.Rows L2 Evl
open Classical

/-! ### texts as lists of codes -/
/-- cut at each c -/
def spC (c : Nat) : List Nat → List (List Nat)
  | [] => [[]]
  | x :: r => if x = c then [] :: spC c r else match spC c r with
    | h :: t => (x :: h) :: t
    | [] => [[x]]
theorem spC_hit {c x : Nat} (r : List Nat) (h : x = c) : spC c (x :: r) = [] :: spC c r := by
  show (if x = c then _ else _) = _
  rw [if_pos h]
theorem spC_miss {c x : Nat} {r a : List Nat} {b : List (List Nat)} (h : ¬ x = c) (e : spC c r = a :: b) : spC c (x :: r) = (x :: a) :: b := by
  show (if x = c then [] :: spC c r else match spC c r with | h :: t => (x :: h) :: t | [] => [[x]]) = _
  rw [if_neg h, e]
theorem spC_ne (c : Nat) (l : List Nat) : spC c l ≠ [] := by
  cases l with
  | nil => simp [spC]
  | cons x r =>
    unfold spC
    by_cases h : x = c
    · rw [if_pos h]; simp
    · rw [if_neg h]
      split <;> simp
theorem pre1 (c x : Nat) (r : List Nat) : TL.pre [c] (x :: r) = decide (x = c) := by
  unfold TL.pre
  by_cases h : x = c
  · simp [h]
  · simp [h]
theorem spl_spC (c : Nat) : ∀ (l acc : List Nat), TL.spl [c] 0 acc l = (match spC c l with | h :: t => (acc ++ h) :: t | [] => [acc])
  | [], acc => by rw [TL.spl_nil]; simp [spC]
  | x :: r, acc => by
    by_cases h : x = c
    · rw [TL.spl_hit (by rw [pre1]; exact decide_eq_true h)]
      have ih := spl_spC c r []
      show acc :: TL.spl [c] 0 [] r = _
      rw [ih, spC_hit r h]
      cases e : spC c r with
      | nil => exact absurd e (spC_ne c r)
      | cons a b => simp
    · rw [TL.spl_miss (by rw [pre1]; exact decide_eq_false h), spl_spC c r]
      cases e : spC c r with
      | nil => exact absurd e (spC_ne c r)
      | cons a b =>
        rw [spC_miss h e]
        simp
theorem tl_SS (l : List Nat) : TL.tl (SS l) = l := rfl
theorem kind_SS {a b : List Nat} (h : Asc b) : ¬ Builtin.Str.strKind (SS a) < Builtin.Str.strKind (SS b) := TL.kind_ok (by
  rw [← Array.all_toList]
  exact List.all_eq_true.mpr fun c hc => decide_eq_true (Nat.lt_trans (h c hc) (by decide)))
theorem split_SS (a : List Nat) (c : Nat) (h : c < 128) : Txt.split (SS a) (SS [c]) = (spC c a).map SS := by
  apply TL.map_tl_inj
  rw [TL.split_spl (SS a) (SS [c]) (by rw [tl_SS]; simp) (kind_SS (fun x hx => by
    have e : x = c := by simpa using hx
    rw [e]
    exact h)), tl_SS, tl_SS, spl_spC, List.map_map]
  have e : (TL.tl ∘ SS) = id := rfl
  rw [e, List.map_id]
  cases q : spC c a with
  | nil => exact absurd q (spC_ne c a)
  | cons x y => simp
theorem spC_sub (c : Nat) : ∀ (l : List Nat), ∀ p ∈ spC c l, ∀ x ∈ p, x ∈ l
  | [], p, hp, x, hx => by
    have e : p = [] := by simpa [spC] using hp
    subst e
    cases hx
  | y :: r, p, hp, x, hx => by
    unfold spC at hp
    by_cases h : y = c
    · rw [if_pos h] at hp
      rcases List.mem_cons.mp hp with e | e
      · subst e
        cases hx
      · exact List.mem_cons_of_mem _ (spC_sub c r p e x hx)
    · rw [if_neg h] at hp
      have ih := spC_sub c r
      cases e : spC c r with
      | nil => exact absurd e (spC_ne c r)
      | cons a b =>
        rw [e] at hp ih
        rcases List.mem_cons.mp hp with q | q
        · subst q
          rcases List.mem_cons.mp hx with z | z
          · rw [z]; exact List.mem_cons_self
          · exact List.mem_cons_of_mem _ (ih a List.mem_cons_self x z)
        · exact List.mem_cons_of_mem _ (ih p (List.mem_cons_of_mem _ q) x hx)
theorem spC_len (c : Nat) : ∀ l : List Nat, (spC c l).length ≤ l.length + 1
  | [] => by simp [spC]
  | y :: r => by
    have ih := spC_len c r
    unfold spC
    by_cases h : y = c
    · rw [if_pos h]
      simp only [List.length_cons]
      omega
    · rw [if_neg h]
      cases e : spC c r with
      | nil => exact absurd e (spC_ne c r)
      | cons a b =>
        rw [e] at ih
        simp only [List.length_cons] at ih ⊢
        omega
/-- what stands before the first c, the c, what stands behind it -/
def ptC (c : Nat) : List Nat → List Nat × List Nat × List Nat
  | [] => ([], [], [])
  | x :: r => if x = c then ([], [c], r) else let (a, s, b) := ptC c r; (x :: a, s, b)
theorem par_ptC (c : Nat) : ∀ (l acc : List Nat), (match TL.par [c] acc l with | some (a, b) => (a, [c], b) | none => (acc ++ l, [], [])) = (acc ++ (ptC c l).1, (ptC c l).2.1, (ptC c l).2.2)
  | [], acc => by simp [TL.par, ptC]
  | x :: r, acc => by
    by_cases h : x = c
    · rw [TL.par_hit (by rw [pre1]; exact decide_eq_true h)]
      unfold ptC
      rw [if_pos h]
      simp
    · rw [TL.par_miss (by rw [pre1]; exact decide_eq_false h)]
      have ih := par_ptC c r (acc ++ [x])
      have e1 : acc ++ x :: r = acc ++ [x] ++ r := by simp
      rw [e1, ih]
      show _ = (acc ++ (ptC c (x :: r)).1, _, _)
      have e2 : ptC c (x :: r) = (x :: (ptC c r).1, (ptC c r).2.1, (ptC c r).2.2) := by
        show (if x = c then _ else _) = _
        rw [if_neg h]
      rw [e2]
      simp
theorem partition_SS (a : List Nat) (c : Nat) : Txt.partition (SS a) (SS [c]) = (SS (ptC c a).1, SS (ptC c a).2.1, SS (ptC c a).2.2) := by
  rw [TL.partition_par (SS a) (SS [c]) (by rw [tl_SS]; simp), tl_SS, tl_SS]
  have h := par_ptC c a []
  cases e : TL.par [c] [] a with
  | none =>
    rw [e] at h
    simp only [List.nil_append, Prod.mk.injEq] at h
    obtain ⟨h1, h2, h3⟩ := h
    rw [← h1, ← h2, ← h3]
    rfl
  | some q =>
    obtain ⟨u, v⟩ := q
    rw [e] at h
    simp only [List.nil_append, Prod.mk.injEq] at h
    obtain ⟨h1, h2, h3⟩ := h
    rw [← h1, ← h2, ← h3]
theorem ptC_eq (c : Nat) : ∀ l : List Nat, (ptC c l).1 ++ ((ptC c l).2.1 ++ (ptC c l).2.2) = l
  | [] => rfl
  | x :: r => by
    by_cases h : x = c
    · unfold ptC
      rw [if_pos h, h]
      rfl
    · have e2 : ptC c (x :: r) = (x :: (ptC c r).1, (ptC c r).2.1, (ptC c r).2.2) := by
        show (if x = c then _ else _) = _
        rw [if_neg h]
      rw [e2]
      show x :: ((ptC c r).1 ++ ((ptC c r).2.1 ++ (ptC c r).2.2)) = x :: r
      rw [ptC_eq c r]
/-- joined -/
def jn (s : List Nat) : List (List Nat) → List Nat
  | [] => []
  | [a] => a
  | a :: b :: r => a ++ s ++ jn s (b :: r)
theorem joinL_jn (s : List Nat) : ∀ l : List (List Nat), TL.joinL s l = jn s l
  | [] => rfl
  | [a] => by simp [TL.joinL, jn]
  | a :: b :: r => by
    have ih := joinL_jn s (b :: r)
    simp only [TL.joinL, jn] at ih ⊢
    rw [ih, List.append_assoc]
theorem join_SS (s : List Nat) (l : List (List Nat)) : Txt.join (SS s) (l.map SS) = SS (jn s l) := by
  rw [TL.join_eq]
  apply TL.ext_tl
  rw [TL.tl_join, tl_SS, tl_SS, List.map_map]
  have e : (TL.tl ∘ SS) = id := rfl
  rw [e, List.map_id, joinL_jn]
theorem jn_sub (s : List Nat) : ∀ (l : List (List Nat)) (x : Nat), x ∈ jn s l → x ∈ s ∨ ∃ p ∈ l, x ∈ p
  | [], x, h => by cases h
  | [a], x, h => .inr ⟨a, by simp, h⟩
  | a :: b :: r, x, h => by
    have h : x ∈ a ++ s ++ jn s (b :: r) := h
    rw [List.mem_append, List.mem_append] at h
    rcases h with (h | h) | h
    · exact .inr ⟨a, by simp, h⟩
    · exact .inl h
    · rcases jn_sub s (b :: r) x h with q | ⟨p, hp, q⟩
      · exact .inl q
      · exact .inr ⟨p, List.mem_cons_of_mem _ hp, q⟩
theorem jn_len (s : List Nat) : ∀ l : List (List Nat), (jn s l).length ≤ (l.map (·.length)).sum + l.length * s.length
  | [] => by simp [jn]
  | [a] => by simp [jn]
  | a :: b :: r => by
    have ih := jn_len s (b :: r)
    show (a ++ s ++ jn s (b :: r)).length ≤ _
    rw [List.length_append, List.length_append, List.map_cons, List.sum_cons, List.length_cons]
    have : (r.length + 1 + 1) * s.length = (r.length + 1) * s.length + s.length := by rw [Nat.add_mul, Nat.one_mul]
    rw [List.length_cons] at ih ⊢
    rw [this]
    omega
theorem startswith_SS (a b : List Nat) : Txt.startswith (SS a) (SS b) = b.isPrefixOf a := by
  unfold Txt.startswith Builtin.Str.subAt
  rw [len_SS, len_SS]
  have e : ((SS a).cps.extract 0 (0 + b.length) == (SS b).cps) = decide (a.take b.length = b) := by
    rw [Bool.eq_iff_iff, beq_iff_eq, decide_eq_true_eq, ← Array.toList_inj]
    simp
  rw [e, Bool.eq_iff_iff, List.isPrefixOf_iff_prefix, Bool.and_eq_true, decide_eq_true_eq, decide_eq_true_eq]
  constructor
  · rintro ⟨_, h⟩
    exact ⟨a.drop b.length, by
      have := List.take_append_drop b.length a
      rw [h] at this
      exact this⟩
  · rintro ⟨t, rfl⟩
    exact ⟨by simp, by simp⟩
theorem endswith_SS (a b : List Nat) : Txt.endswith (SS a) (SS b) = b.isSuffixOf a := by
  unfold Txt.endswith Builtin.Str.subAt
  rw [len_SS, len_SS]
  by_cases hb : b.length ≤ a.length
  · have e : ((SS a).cps.extract (a.length - b.length) (a.length - b.length + b.length) == (SS b).cps) = decide (a.drop (a.length - b.length) = b) := by
      rw [Bool.eq_iff_iff, beq_iff_eq, decide_eq_true_eq, ← Array.toList_inj]
      have : a.length - b.length + b.length = a.length := by omega
      rw [this]
      simp
      rw [List.take_of_length_le]
      rw [List.length_drop]
      omega
    rw [e, Bool.eq_iff_iff, List.isSuffixOf_iff_suffix, Bool.and_eq_true, decide_eq_true_eq, decide_eq_true_eq]
    constructor
    · rintro ⟨_, h⟩
      exact ⟨a.take (a.length - b.length), by
        have := List.take_append_drop (a.length - b.length) a
        rw [h] at this
        exact this⟩
    · rintro ⟨t, rfl⟩
      exact ⟨by simp, by simp⟩
  · have h1 : decide (0 + b.length ≤ a.length) = false := decide_eq_false (by omega)
    rw [h1, Bool.false_and]
    symm
    rw [Bool.eq_false_iff]
    intro h
    rw [List.isSuffixOf_iff_suffix] at h
    exact hb h.length_le
def lowC (c : Nat) : Nat := if 65 ≤ c && c ≤ 90 then c + 32 else c
def uppC (c : Nat) : Nat := if 97 ≤ c && c ≤ 122 then c - 32 else c
theorem low_tab : ∀ c : Nat, c < 128 → Unicode.lowerOf c = [lowC c] := by decide +kernel
theorem upp_tab : ∀ c : Nat, c < 128 → Unicode.upperOf c = [uppC c] := by decide +kernel
end L3

namespace L3
open PySem PySem.Spec PyProof.Rows L2 Evl
open Classical

/-! ### no changing object within; other numbers for them -/
mutual
def Gr : D → Prop
  | .ls l => GrL l
  | .tp l => GrL l
  | .rl l => GrL l
  | .ob _ _ l => GrL l
  | .cel _ => False
  | .ex _ _ _ _ _ => False
  | .non | .bl _ | .int _ | .str _ | .adr _ | .ty _ | .tx _ | .cl _ | .dt _ => True
def GrL : List D → Prop
  | [] => True
  | d :: r => Gr d ∧ GrL r
end
theorem grL_iff : ∀ {l : List D}, GrL l ↔ ∀ d ∈ l, Gr d
  | [] => by simp [GrL]
  | d :: r => by
    unfold GrL
    rw [grL_iff (l := r), List.forall_mem_cons]
theorem gr_ls {l : List D} : Gr (.ls l) ↔ ∀ d ∈ l, Gr d := by
  show GrL l ↔ _
  exact grL_iff
theorem gr_tp {l : List D} : Gr (.tp l) ↔ ∀ d ∈ l, Gr d := by
  show GrL l ↔ _
  exact grL_iff
theorem gr_strs (l : List (List Nat)) : ∀ d ∈ l.map D.str, Gr d := by
  intro d hd
  obtain ⟨s, _, rfl⟩ := List.mem_map.mp hd
  exact trivial
theorem gr_ints (l : List Int) : ∀ d ∈ l.map D.int, Gr d := by
  intro d hd
  obtain ⟨s, _, rfl⟩ := List.mem_map.mp hd
  exact trivial
section
variable {K : PySem.W.Frag} {mg : Str → Option Value} {A A' : List Addr} {F : Hp}
theorem Is.gr {v : V} {d : D} (h : Is K mg A F v d) (g : Gr d) : Is K mg A' F v d := by
  induction h with
  | non => exact .non
  | bl b => exact .bl b
  | int i => exact .int i
  | str l h => exact .str l h
  | rl h n p ih => exact .rl h n fun i x d e1 e2 => ih i x d e1 e2 (grL_iff.mp g d (List.mem_of_getElem? e2))
  | ls h n p ih => exact .ls h n fun i x d e1 e2 => ih i x d e1 e2 (grL_iff.mp g d (List.mem_of_getElem? e2))
  | tp h n p ih => exact .tp h n fun i x d e1 e2 => ih i x d e1 e2 (grL_iff.mp g d (List.mem_of_getElem? e2))
  | cel h => exact g.elim
  | ob hc h hn n p ih => exact .ob hc h hn n fun i x d e1 e2 => ih i x d e1 e2 (grL_iff.mp g d (List.mem_of_getElem? e2))
  | adr a => exact .adr a
  | ty n => exact .ty n
  | tx s => exact .tx s
  | cl h => exact .cl h
  | dt h ha => exact .dt h ha
  | ex h hn n p ih => exact g.elim
  | ex0 => exact g.elim
theorem IsL.gr {vs : List V} {ds : List D} (h : IsL K mg A F vs ds) (g : ∀ d ∈ ds, Gr d) : IsL K mg A' F vs ds := by
  induction h with
  | nil => exact .nil
  | cons r t ih => exact .cons (r.gr (g _ List.mem_cons_self)) (ih fun d hd => g d (List.mem_cons_of_mem _ hd))
end
/-- a changing object whose content bears none -/
def GrM : MO → Prop
  | .ls l => ∀ d ∈ l, Gr d
  | .dc l => ∀ p ∈ l, Gr p.2
  | .ob _ _ l => ∀ d ∈ l, Gr d
  | .dead => True
theorem MoIs.gr {K : PySem.W.Frag} {mg : Str → Option Value} {A A' : List Addr} {F H : Hp} {a : Addr} {m : MO} (h : MoIs K mg A F H a m) (g : GrM m) : MoIs K mg A' F H a m := by
  cases m with
  | ls l =>
    obtain ⟨h1, xs, h2, p⟩ := h
    exact ⟨h1, xs, h2, p.gr g⟩
  | dc l =>
    obtain ⟨h1, xs, h2, h3, p⟩ := h
    exact ⟨h1, xs, h2, h3, p.gr fun d hd => by
      obtain ⟨q, hq, rfl⟩ := List.mem_map.mp hd
      exact g q hq⟩
  | ob c ns l =>
    obtain ⟨h1, C, dx, fs, h2, h3, h4, p⟩ := h
    exact ⟨h1, C, dx, fs, h2, h3, h4, p.gr g⟩
  | dead => trivial

/-! ### what a def promises, by data -/
abbrev Kx := XD → MM → Prop
abbrev DSpec := List D → MM → Kd → Kx → Prop
structure Mem (K : PySem.W.Frag) (mg : Str → Option Value) (F : Hp) (A : List Addr) (H : Hp) (M : MM) : Prop where
  ex : Ex F H
  nd : A.Nodup
  inH : ∀ a ∈ A, H a ≠ none
  len : A.length = M.length
  cells : ∀ (k : Nat) a m, A[k]? = some a → M[k]? = some m → MoIs K mg A F H a m
/-- from (F, A, H) to (F', A', H') -/
structure Went (F : Hp) (A : List Addr) (H : Hp) (F' : Hp) (A' : List Addr) (H' : Hp) : Prop where
  exF : Ex F F'
  pre : A <+: A'
  keep : ∀ a o, a ∉ A → H a = some o → H' a = some o
  frs : ∀ a ∈ A', a ∉ A → H a = none
  nw : ∀ a o, F' a = some o → F a = some o ∨ H a = none ∨ a ∈ A
def spOf (K : PySem.W.Frag) (mg : Str → Option Value) (S : DSpec) : Sp := fun vs H Q E => ∃ F A M ds K0 R0, Mem K mg F A H M ∧ IsL K mg A F vs ds ∧ S ds M K0 R0 ∧
  (∀ d M', K0 d M' → ∀ v F' A' H', Went F A H F' A' H' → Mem K mg F' A' H' M' → Is K mg A' F' v d → Q v H') ∧
  (∀ x M', R0 x M' → ∀ cls dd F' A' H', Went F A H F' A' H' → Mem K mg F' A' H' M' → XIs K mg A' F' cls dd x → E cls dd H')

section
variable {X : Cx} {O : Org} {F F' : Hp} {A Ac N : List Addr} {H H' : Hp} {σ : L2.St} {Γ : G} {vs : List V} {T : List D} {M M' : MM}
theorem StOk.went (s : StOk X O F A H σ Γ vs T M) (w : Went F Ac H F' (Ac ++ N) H') (sub : ∀ a ∈ Ac, a ∈ A) (exH' : Ex F' H') (nd' : (Ac ++ N).Nodup) (inH' : ∀ a ∈ Ac ++ N, H' a ≠ none) (hl : (A ++ N).length = M'.length)
    (hc : ∀ (k : Nat) a m, (A ++ N)[k]? = some a → M'[k]? = some m → (a ∈ Ac ++ N → MoIs X.K X.mg (A ++ N) F' H' a m) ∧ (a ∈ A → a ∉ Ac → M[k]? = some m ∧ A[k]? = some a)) : StOk X O F' (A ++ N) H' σ Γ vs T M' := by
  have hN : ∀ a ∈ N, a ∉ Ac ∧ H a = none := fun a ha => by
    have h1 : a ∉ Ac := fun z => (List.nodup_append.mp nd').2.2 a z a ha rfl
    exact ⟨h1, w.frs a (List.mem_append_right _ ha) h1⟩
  have pre : A <+: A ++ N := ⟨N, rfl⟩
  refine ⟨s.exF.trans w.exF, exH', fun a o e => ?_, s.pre.trans pre, fun a o ha e => ?_, fun a ha hO => ?_, ?_, fun a ha => ?_, hl, fun k a m e1 e2 => ?_, s.sl, fun i d e => ?_, s.tmp.mono w.exF pre⟩
  · rcases w.nw a o e with h | h | h
    · exact s.nw a o h
    · exact .inr (.inl (s.fr h))
    · by_cases hO : a ∈ O.A
      · exact .inr (.inr hO)
      · exact .inr (.inl (s.frs a (sub a h) hO))
  · refine w.keep a o (fun z => ?_) (s.keep a o ha e)
    have := s.frs a (sub a z) ha
    rw [e] at this
    cases this
  · rcases List.mem_append.mp ha with h | h
    · exact s.frs a h hO
    · exact s.fr (hN a h).2
  · rw [List.nodup_append]
    exact ⟨s.nd, (List.nodup_append.mp nd').2.1, fun a ha b hb e => s.inH a ha (by rw [e]; exact (hN b hb).2)⟩
  · rcases List.mem_append.mp ha with h | h
    · by_cases hac : a ∈ Ac
      · exact inH' a (List.mem_append_left _ hac)
      · cases q : H a with
        | none => exact absurd q (s.inH a h)
        | some o =>
          rw [w.keep a o hac q]
          simp
    · exact inH' a (List.mem_append_right _ h)
  · obtain ⟨h1, h2⟩ := hc k a m e1 e2
    by_cases hac : a ∈ Ac ++ N
    · exact h1 hac
    · have hA : a ∈ A := (List.mem_append.mp (List.mem_of_getElem? e1)).elim id fun z => absurd (List.mem_append_right _ z) hac
      have hnc : a ∉ Ac := fun z => hac (List.mem_append_left _ z)
      obtain ⟨q1, q2⟩ := h2 hA hnc
      have c := s.cells k a m q2 q1
      cases q : H a with
      | none => exact absurd q (s.inH a hA)
      | some o =>
        refine c.mono w.exF pre (fun z => ?_) (by rw [w.keep a o hnc q, q])
        cases r : F' a with
        | none => rfl
        | some u =>
          rcases w.nw a u r with h | h | h
          · rw [z] at h; cases h
          · rw [q] at h; cases h
          · exact absurd h hnc
  · obtain ⟨v, h1, h2⟩ := s.slot i d e
    exact ⟨v, h1, h2.mono w.exF pre⟩
theorem StOk.mem0 (s : StOk X O F A H σ Γ vs T M) : Mem X.K X.mg F [] H [] := ⟨s.exH, List.nodup_nil, fun a h => (nomatch h), rfl, fun k a m h => by simp at h⟩
theorem StOk.mem1 (s : StOk X O F A H σ Γ vs T M) {k : Nat} {a : Addr} {m : MO} (e1 : A[k]? = some a) (e2 : M[k]? = some m) (g : GrM m) : Mem X.K X.mg F [a] H [m] := by
  refine ⟨s.exH, by simp, fun b hb => ?_, rfl, fun j b m' h1 h2 => ?_⟩
  · have e : b = a := by simpa using hb
    rw [e]
    exact s.inH a (List.mem_of_getElem? e1)
  · cases j with
    | zero =>
      simp at h1 h2
      subst h1; subst h2
      exact (s.cells k a m e1 e2).gr g
    | succ j => simp at h1
theorem StOk.memW (s : StOk X O F A H σ Γ vs T M) : Mem X.K X.mg F A H M := ⟨s.exH, s.nd, s.inH, s.len, s.cells⟩
/-- behind a call that had no changing object -/
theorem StOk.after0 (s : StOk X O F A H σ Γ vs T M) (w : Went F [] H F' [] H') (m : Mem X.K X.mg F' [] H' []) : StOk X O F' A H' σ Γ vs T M := by
  have h := s.went (Ac := []) (N := []) (M' := M) w (fun _ h => (nomatch h)) m.ex (by simp) (fun _ h => (nomatch h)) (by simpa using s.len) fun k a mo e1 e2 => ⟨fun h => (nomatch h), fun _ _ => ⟨e2, by simpa using e1⟩⟩
  simpa using h
/-- .. that made one -/
theorem StOk.afterN {p : Addr} {m : MO} (s : StOk X O F A H σ Γ vs T M) (w : Went F [] H F' [p] H') (mm : Mem X.K X.mg F' [p] H' [m]) (g : GrM m) : StOk X O F' (A ++ [p]) H' σ Γ vs T (M ++ [m]) := by
  refine s.went (Ac := []) (N := [p]) w (fun _ h => (nomatch h)) mm.ex (by simp) (fun a h => mm.inH a h) (by simp [s.len]) fun k a mo e1 e2 => ⟨fun h => ?_, fun hA _ => ?_⟩
  · have e : a = p := by simpa using h
    subst e
    have hp : H a = none := w.frs a (by simp) (by simp)
    have hk : ¬ k < A.length := fun z => by
      rw [List.getElem?_append_left z] at e1
      exact s.inH a (List.mem_of_getElem? e1) hp
    rw [List.getElem?_append_right (by rw [← s.len]; omega), ← s.len] at e2
    have hk0 : k - A.length = 0 := by
      have := (List.getElem?_eq_some_iff.mp e2).1
      simp at this
      omega
    rw [hk0] at e2
    have e3 : m = mo := by simpa using e2
    subst e3
    exact (mm.cells 0 a m rfl rfl).gr g
  · have hk : k < A.length := by
      refine Decidable.byContradiction fun z => ?_
      rw [List.getElem?_append_right (by omega)] at e1
      have e : a = p := by
        have := List.mem_of_getElem? e1
        simpa using this
      exact s.inH a hA (by rw [e]; exact w.frs p (by simp) (by simp))
    rw [List.getElem?_append_left hk] at e1
    rw [List.getElem?_append_left (by rw [← s.len]; exact hk)] at e2
    exact ⟨e2, e1⟩
/-- .. that had one -/
theorem StOk.after1 {k : Nat} {a : Addr} {m m' : MO} (s : StOk X O F A H σ Γ vs T M) (e1 : A[k]? = some a) (e2 : M[k]? = some m) (w : Went F [a] H F' [a] H') (mm : Mem X.K X.mg F' [a] H' [m']) (g : GrM m') : StOk X O F' A H' σ Γ vs T (M.set k m') := by
  have hkA : k < A.length := (List.getElem?_eq_some_iff.mp e1).1
  have h := s.went (Ac := [a]) (N := []) (M' := M.set k m') (by simpa using w) (fun b hb => by
    have e : b = a := by simpa using hb
    rw [e]
    exact List.mem_of_getElem? e1) mm.ex (by simp) (fun b h => mm.inH b (by simpa using h)) (by simpa using s.len) fun j b mo h1 h2 => ⟨fun h => ?_, fun hA hn => ?_⟩
  · simpa using h
  · have e : b = a := by simpa using h
    subst e
    rw [List.append_nil] at h1
    have ej : j = k := by
      obtain ⟨p1, p2⟩ := List.getElem?_eq_some_iff.mp h1
      obtain ⟨q1, q2⟩ := List.getElem?_eq_some_iff.mp e1
      exact (List.getElem_inj s.nd).mp (p2.trans q2.symm)
    subst ej
    have e3 : m' = mo := by
      rw [List.getElem?_set_self (by rw [← s.len]; exact hkA)] at h2
      exact Option.some.inj h2
    subst e3
    exact (mm.cells 0 b m' rfl rfl).gr g
  · rw [List.append_nil] at h1
    have ej : k ≠ j := fun z => by
      subst z
      rw [e1] at h1
      exact hn (by simp [Option.some.inj h1])
    rw [List.getElem?_set_ne ej] at h2
    exact ⟨h2, h1⟩
/-- .. that had them all -/
theorem StOk.afterW {M' : MM} (s : StOk X O F A H σ Γ vs T M) (w : Went F A H F' (A ++ N) H') (mm : Mem X.K X.mg F' (A ++ N) H' M') : StOk X O F' (A ++ N) H' σ Γ vs T M' :=
  s.went (Ac := A) (N := N) w (fun _ h => h) mm.ex mm.nd mm.inH mm.len fun k a mo e1 e2 => ⟨fun _ => mm.cells k a mo e1 e2, fun hA hn => absurd hA hn⟩
end
end L3

namespace L3
open PySem PySem.Spec PyProof.Rows L2 Evl
open Classical

/-! ### calls of defs -/
abbrev FnD (X : Cx) (k : Nat) (f : Addr) (fd : FuncData) (ps : List Str) (S : DSpec) : Prop := FnOk X.prog X.w X.K X.mg X.base (L2.CX X.prog X.w) k f fd ps (spOf X.K X.mg S)
/-- what a call with these data asks: no changing object is handed over -/
def cPure (S : DSpec) (Γ : G) (ds : List D) (M : MM) (K : Kd) (R : Rx) : Prop := (∀ d ∈ ds, Gr d) ∧ S ds [] (fun d Mc => Mc = [] ∧ K d M) (fun x Mc => Mc = [] ∧ R x Γ M)
/-- one is made -/
def cNew (S : DSpec) (Γ : G) (ds : List D) (M : MM) (K : Kd) (R : Rx) : Prop := (∀ d ∈ ds, Gr d) ∧ S ds [] (fun d Mc => ∃ m, Mc = [m] ∧ GrM m ∧ d = .cel 0 ∧ K (.cel M.length) (M ++ [m])) (fun x Mc => Mc = [] ∧ R x Γ M)
def unC (k : Nat) : D → D
  | .cel j => if j = k then .cel 0 else .cel j
  | d => d
/-- the k-th one is handed over -/
def cBag (k : Nat) (S : DSpec) (Γ : G) (ds : List D) (M : MM) (K : Kd) (R : Rx) : Prop := ∃ m, M[k]? = some m ∧ GrM m ∧ (∀ d ∈ ds, d = .cel k ∨ Gr d) ∧
  S (ds.map (unC k)) [m] (fun d Mc => ∃ m', Mc = [m'] ∧ GrM m' ∧ Gr d ∧ K d (M.set k m')) (fun x Mc => ∃ m', Mc = [m'] ∧ GrM m' ∧ (∀ d ∈ x.l, Gr d) ∧ R x Γ (M.set k m'))
/-- all are handed over -/
def cWhole (S : DSpec) (Γ : G) (ds : List D) (M : MM) (K : Kd) (R : Rx) : Prop := S ds M K (fun x M' => R x Γ M')
theorem gr_unC {k : Nat} {d : D} (h : Gr d) : unC k d = d := by cases d <;> first | rfl | exact h.elim
theorem XIs.mono {K : PySem.W.Frag} {mg : Str → Option Value} {A A' : List Addr} {F : Hp} {cls : Value} {d : Option Addr} {x : XD} (h : XIs K mg A F cls d x) (pre : A <+: A') : XIs K mg A' F cls d x := by
  obtain ⟨C, h1, h2, h3⟩ := h
  refine ⟨C, h1, h2, ?_⟩
  rcases h3 with h3 | ⟨dd, fs, e1, e2, e3, p⟩
  · exact .inl h3
  · exact .inr ⟨dd, fs, e1, e2, e3, p.mono (Ex.refl _) pre⟩
theorem XIs.gr {K : PySem.W.Frag} {mg : Str → Option Value} {A A' : List Addr} {F : Hp} {cls : Value} {d : Option Addr} {x : XD} (h : XIs K mg A F cls d x) (g : ∀ d ∈ x.l, Gr d) : XIs K mg A' F cls d x := by
  obtain ⟨C, h1, h2, h3⟩ := h
  refine ⟨C, h1, h2, ?_⟩
  rcases h3 with h3 | ⟨dd, fs, e1, e2, e3, p⟩
  · exact .inl h3
  · exact .inr ⟨dd, fs, e1, e2, e3, p.gr g⟩
section
variable {X : Cx} {O : Org} {F : Hp} {A : List Addr} {H : Hp} {σ : L2.St} {Γ : G} {vs : List V} {T : List D} {M : MM} {K : Kd} {R : Rx} {W : WX} {S : DSpec} {ws : List V} {ds : List D}
theorem len0 {K : PySem.W.Frag} {mg : Str → Option Value} {F' H' : Hp} {A' : List Addr} (m : Mem K mg F' A' H' []) : A' = [] := by
  cases A' with
  | nil => rfl
  | cons a r => exact nomatch m.len
theorem len1 {K : PySem.W.Frag} {mg : Str → Option Value} {F' H' : Hp} {A' : List Addr} {mo : MO} (m : Mem K mg F' A' H' [mo]) : ∃ p, A' = [p] := by
  match A', m.len with
  | [p], _ => exact ⟨p, rfl⟩
theorem sp_pure (s : StOk X O F A H σ Γ vs T M) (lf : Lift X W O vs T R) (p : IsL X.K X.mg A F ws ds) (h : cPure S Γ ds M K R) : spOf X.K X.mg S ws H (Post X O σ Γ vs T K) (WE W σ) := by
  obtain ⟨g, h⟩ := h
  refine ⟨F, [], [], ds, _, _, s.mem0, p.gr g, h, ?_, ?_⟩
  · rintro d Mc ⟨rfl, k⟩ v F' A' H' w m i
    obtain rfl := len0 m
    exact ⟨d, M, F', A, (s.after0 w m).push (i.mono (Ex.refl _) (List.nil_prefix)), k⟩
  · rintro x Mc ⟨rfl, k⟩ cls dd F' A' H' w m i
    obtain rfl := len0 m
    exact lf x σ Γ M F' A H' cls dd (s.after0 w m) (i.mono (List.nil_prefix)) k
theorem sp_new (s : StOk X O F A H σ Γ vs T M) (lf : Lift X W O vs T R) (p : IsL X.K X.mg A F ws ds) (h : cNew S Γ ds M K R) : spOf X.K X.mg S ws H (Post X O σ Γ vs T K) (WE W σ) := by
  obtain ⟨g, h⟩ := h
  refine ⟨F, [], [], ds, _, _, s.mem0, p.gr g, h, ?_, ?_⟩
  · rintro d Mc ⟨mo, rfl, gm, rfl, k⟩ v F' A' H' w m i
    obtain ⟨q, rfl⟩ := len1 m
    obtain ⟨a, rfl, e⟩ := is_cel i
    have e : q = a := by simpa using e
    subst e
    refine ⟨.cel M.length, M ++ [mo], F', A ++ [q], (s.afterN w m gm).push (.cel ?_), k⟩
    rw [← s.len, List.getElem?_append_right (Nat.le_refl _), Nat.sub_self]
    rfl
  · rintro x Mc ⟨rfl, k⟩ cls dd F' A' H' w m i
    obtain rfl := len0 m
    exact lf x σ Γ M F' A H' cls dd (s.after0 w m) (i.mono (List.nil_prefix)) k
theorem isL_unC {k : Nat} {a : Addr} (hk : A[k]? = some a) : ∀ {ws : List V} {ds : List D}, IsL X.K X.mg A F ws ds → (∀ d ∈ ds, d = .cel k ∨ Gr d) → IsL X.K X.mg [a] F ws (ds.map (unC k))
  | _, _, .nil, _ => .nil
  | _, _, .cons (a := v) (b := d) r t, g => by
    refine .cons ?_ (isL_unC hk t fun e he => g e (List.mem_cons_of_mem _ he))
    rcases g d List.mem_cons_self with h | h
    · subst h
      obtain ⟨b, rfl, e⟩ := is_cel r
      rw [hk] at e
      cases e
      have e2 : unC k (.cel k) = .cel 0 := by simp [unC]
      rw [e2]
      exact .cel rfl
    · rw [gr_unC h]
      exact r.gr h
theorem sp_bag {k : Nat} (s : StOk X O F A H σ Γ vs T M) (lf : Lift X W O vs T R) (p : IsL X.K X.mg A F ws ds) (h : cBag k S Γ ds M K R) : spOf X.K X.mg S ws H (Post X O σ Γ vs T K) (WE W σ) := by
  obtain ⟨mo, hm, gm, g, h⟩ := h
  obtain ⟨a, ha⟩ : ∃ a, A[k]? = some a := ⟨_, List.getElem?_eq_getElem (by rw [s.len]; exact (List.getElem?_eq_some_iff.mp hm).1)⟩
  refine ⟨F, [a], [mo], ds.map (unC k), _, _, s.mem1 ha hm gm, isL_unC ha p g, h, ?_, ?_⟩
  · rintro d Mc ⟨m', rfl, gm', gd, kk⟩ v F' A' H' w m i
    obtain ⟨q, rfl⟩ := len1 m
    have e : a = q := by
      have := w.pre
      simpa using this
    subst e
    exact ⟨d, M.set k m', F', A, (s.after1 ha hm w m gm').push (i.gr gd), kk⟩
  · rintro x Mc ⟨m', rfl, gm', gx, kk⟩ cls dd F' A' H' w m i
    obtain ⟨q, rfl⟩ := len1 m
    have e : a = q := by
      have := w.pre
      simpa using this
    subst e
    exact lf x σ Γ (M.set k m') F' A H' cls dd (s.after1 ha hm w m gm') (i.gr gx) kk
theorem sp_whole (s : StOk X O F A H σ Γ vs T M) (lf : Lift X W O vs T R) (p : IsL X.K X.mg A F ws ds) (h : cWhole S Γ ds M K R) : spOf X.K X.mg S ws H (Post X O σ Γ vs T K) (WE W σ) := by
  refine ⟨F, A, M, ds, _, _, s.memW, p, h, ?_, ?_⟩
  · intro d M' k v F' A' H' w m i
    obtain ⟨N, rfl⟩ := w.pre
    exact ⟨d, M', F', A ++ N, (s.afterW w m).push i, k⟩
  · intro x M' k cls dd F' A' H' w m i
    obtain ⟨N, rfl⟩ := w.pre
    exact lf x σ Γ M' F' (A ++ N) H' cls dd (s.afterW w m) i k
end
section
variable {X : Cx} {O : Org} {F : Hp} {A : List Addr} {H : Hp} {σ : L2.St} {Γ : G} {vs : List V} {T : List D} {M : MM} {R : Rx} {W : WX}
theorem StOk.pushL {ws : List V} {ds : List D} (s : StOk X O F A H σ Γ vs T M) (p : IsL X.K X.mg A F ws ds) : StOk X O F A H σ Γ (ws ++ vs) (ds ++ T) M :=
  ⟨s.exF, s.exH, s.nw, s.pre, s.keep, s.frs, s.nd, s.inH, s.len, s.cells, s.sl, s.slot, Paired.app p s.tmp⟩
theorem pairL {K : PySem.W.Frag} {mg : Str → Option Value} : ∀ {ws vs : List V} {ds T : List D}, ws.length = ds.length → IsL K mg A F (ws ++ vs) (ds ++ T) → IsL K mg A F ws ds ∧ IsL K mg A F vs T
  | [], _, [], _, _, h => ⟨.nil, h⟩
  | [], _, _ :: _, _, e, _ => nomatch e
  | _ :: _, _, [], _, e, _ => nomatch e
  | w :: ws, vs, d :: ds, T, e, h => by
    cases h with
    | cons r t =>
      obtain ⟨h1, h2⟩ := pairL (by simpa using e) t
      exact ⟨.cons r h1, h2⟩
theorem StOk.popL {ws : List V} {ds : List D} (e : ws.length = ds.length) (s : StOk X O F A H σ Γ (ws ++ vs) (ds ++ T) M) : StOk X O F A H σ Γ vs T M ∧ IsL X.K X.mg A F ws ds :=
  ⟨⟨s.exF, s.exH, s.nw, s.pre, s.keep, s.frs, s.nd, s.inH, s.len, s.cells, s.sl, s.slot, (pairL e s.tmp).2⟩, (pairL e s.tmp).1⟩
theorem Lift.popL {ws : List V} {ds : List D} (e : ws.length = ds.length) (h : Lift X W O vs T R) : Lift X W O (ws ++ vs) (ds ++ T) R :=
  fun x σ Γ M F A H cls d' s xi r => h x σ Γ M F A H cls d' (s.popL e).1 xi r
end
/-- a way to hand over -/
abbrev CK := G → List D → MM → Kd → Rx → Prop
structure CallK (X : Cx) (S : DSpec) (c : CK) : Prop where
  go : ∀ {O F A H σ Γ vs T M K R W ws ds}, StOk X O F A H σ Γ vs T M → Lift X W O vs T R → IsL X.K X.mg A F ws ds → c Γ ds M K R → spOf X.K X.mg S ws H (Post X O σ Γ vs T K) (WE W σ)
theorem ck_pure {X : Cx} {S : DSpec} : CallK X S (cPure S) := ⟨sp_pure⟩
theorem ck_new {X : Cx} {S : DSpec} : CallK X S (cNew S) := ⟨sp_new⟩
theorem ck_bag {X : Cx} {S : DSpec} (k : Nat) : CallK X S (cBag k S) := ⟨sp_bag⟩
theorem ck_whole {X : Cx} {S : DSpec} : CallK X S (cWhole S) := ⟨sp_whole⟩
/-- f(e, ..), dv the defaults that fill up -/
def dFn (c : CK) (dv : List D) (t : DA) : DE := fun Γ M K R => t Γ M (fun ds M1 => c Γ (ds ++ dv) M1 K R) R
/-- f(): no exception leaves -/
def dFn0 (c : CK) (dv : List D) : DE := fun Γ M K _ => c Γ dv M K (fun _ _ _ => False)
theorem lift0 {X : Cx} {O : Org} {vs : List V} {T : List D} : Lift X (fun _ _ _ _ => False) O vs T (fun _ _ _ => False) := fun _ _ _ _ _ _ _ _ _ _ _ h => h
section
variable {X : Cx} {k : Nat} {f : Addr} {fd : FuncData} {ps : List Str} {S : DSpec} {c : CK} {x : Str} {p pos : Pos} {e : Expr} {es : List Expr} {t : DA} {dV : List Value} {dvs : List V} {dv : List D}
theorem se_fn (Fn : FnD X k f fd ps S) (ck : CallK X S c) (hr : Room k X.A) (hm : X.mg x = some (.ref f)) (hk : PySem.W.keepIn X.K (.ref f) = true) (hb : Binds X.K fd ps dV) (hd : Vals dvs dV) (hD : ∀ A F, IsL X.K X.mg A F dvs dv) (sa : SA X (e :: es) t) (hg : Gl X x := by rfl)
    (hdb : (x == ("__debug__" : Str)) = false := by decide) (he : starEach (e :: es) X.env = (false, eval e X.env) :: starEach es X.env := by rfl) (hpl : (backTo pos (starEach es X.env)).any (·.1) = false := by rfl) : SE X (.Call (.Name x p) (e :: es) [] pos) (dFn c dv t) := fun W tk O F A H σ Γ vs T M K R s lf h =>
  bE_of (pe_callSD Fn hr hg hm hk hb hd (fun σ => passAt tk σ) bA_ok hdb he hpl) (bA_mono (sa W tk O F A H σ Γ vs T M _ R s lf h) fun ws H1 ⟨ds, M1, F1, A1, s1, q, k⟩ => ck.go s1 lf (Paired.app q (hD _ _)) k)
theorem se_fn0 (Fn : FnD X k f fd ps S) (ck : CallK X S c) (hr : Room k X.A) (hm : X.mg x = some (.ref f)) (hk : PySem.W.keepIn X.K (.ref f) = true) (hb : Binds X.K fd ps dV) (hd : Vals dvs dV) (hD : ∀ A F, IsL X.K X.mg A F dvs dv) (hg : Gl X x := by rfl)
    (hdb : (x == ("__debug__" : Str)) = false := by decide) : SE X (.Call (.Name x p) [] [] pos) (dFn0 c dv) := fun W tk O F A H σ Γ vs T M K R s lf h =>
  bE_of (pe_call0 (E := E0) Fn hr hg hm hk hb hd passL hdb) (ck.go (W := fun _ _ _ _ => False) s lift0 (hD _ _) h)
end
/-! ### .. with keywords -/
structure BK (X : Cx) (kws : List Keyword) (σ : L2.St) (H : Hp) (Q : List V → Hp → Prop) : Prop where
  go : ∀ (pos : Pos) pins s, Inv X pins σ H s → wpAny (model X.prog X.w) X.A (evalAll ((backToKw pos (keywordEach kws X.env)).map (·.2))) (AP X pins σ Q) X.xe s
abbrev bK (X : Cx) (kws : List Keyword) : TA := fun σ H Q => BK X kws σ H Q
theorem bK_ok {X : Cx} {kws : List Keyword} : PK X kws (bK X kws) := ⟨fun pos pins s _ _ _ I h => h.go pos pins s I⟩
theorem bK_of {X : Cx} {kws : List Keyword} {t : TA} {σ : L2.St} {H : Hp} {Q : List V → Hp → Prop} (h : PK X kws t) (q : t σ H Q) : bK X kws σ H Q := ⟨fun pos pins s I => h.run pos pins s σ H Q I q⟩
theorem bK_mono {X : Cx} {kws : List Keyword} {σ : L2.St} {H : Hp} {Q Q' : List V → Hp → Prop} (h : bK X kws σ H Q) (q : ∀ v H', Q v H' → Q' v H') : bK X kws σ H Q' := ⟨fun pos pins s I =>
  thn (h.go pos pins s I) fun _ _ ⟨v, H', I', r, z⟩ => ⟨v, H', I', r, q v H' z⟩⟩
def SK (X : Cx) (kws : List Keyword) (t : DA) : Prop := ∀ (W : WX), Takes X W → ∀ O F A H σ Γ vs T M K R, StOk X O F A H σ Γ vs T M → Lift X W O vs T R → t Γ M K R → bK X kws σ H (PostA X O σ Γ vs T K)
section
variable {X : Cx} {k n : Nat} {f : Addr} {fd : FuncData} {ps ks : List Str} {S : DSpec} {c : CK} {x : Str} {p pos kpos : Pos} {e : Expr} {es : List Expr} {kws : List Keyword} {te : DE} {t u : DA} {nm : Option Str} {g : List Value → List Value → List Value} {gV : List V → List V → List V} {gD : List D → List D → List D}
theorem sk_nil : SK X [] aNil := fun W tk O F A H σ Γ vs T M K R s lf k => bK_of pk_nil ⟨[], M, F, A, s, .nil, k⟩
theorem sk_cons (sa : SE X e te) (sr : SK X kws u) : SK X (⟨nm, e, kpos⟩ :: kws) (aCons te u) := fun W tk O F A H σ Γ vs T M K R s lf h =>
  bK_of (pk_cons bE_ok bK_ok) (bE_mono (sa W tk O F A H σ Γ vs T M _ R s lf h) fun v H1 ⟨d, M1, F1, A1, s1, k1⟩ =>
    bK_mono (sr W tk O F1 A1 H1 σ Γ (v :: vs) (d :: T) M1 _ R s1 lf.pop k1) fun ws H2 ⟨ds, M2, F2, A2, s2, p, k2⟩ => ⟨d :: ds, M2, F2, A2, s2.pop, .cons s2.top p, k2⟩)
/-- f(e, .., k = v, ..): gD puts the data in the parameters' order -/
def dFnK (c : CK) (gD : List D → List D → List D) (n m : Nat) (t u : DA) : DE := fun Γ M K R => t Γ M (fun ds M1 => u Γ M1 (fun es M2 => ds.length = n ∧ es.length = m ∧ c Γ (gD ds es) M2 K R) R) R
theorem run_fnNS {CX : CXT} {sp : Sp} {E : L2.St → XK} {σ : L2.St} {pins : List (Addr × Obj)} {H : Hp} {s : Shared} {Q : VK} {us ws : List Value} {vs zs : List V} (F : FnOk X.prog X.w X.K X.mg X.base CX k f fd ps sp) (hr : Room k X.A) (hb : KBn X.K fd ps n ks g gV) (hx : PassesAt CX X σ (E σ))
    (I : Inv X pins σ H s) (r : Vals vs us) (rz : Vals zs ws) (l1 : vs.length = n) (l2 : zs.length = ks.length) (h : sp (gV vs zs) H Q (E σ)) : wpAny (model X.prog X.w) X.A (call (.ref f) us (ks.zip ws)) (EP X pins σ Q) X.xe s := by
  have r2 := hb.rel r rz
  refine wpAny_call (codeAny_mono (F.run X.A X.stack s H ⟨us, ks.zip ws⟩ (g us ws) (gV vs zs) Q (E σ) hr I.env0 (hb.to s us ws I.kIn (r.length.symm.trans l1) (rz.length.symm.trans l2)) r2 h) fun r s' hq => ?_)
  cases r with
  | error e => exact hx pins H s e s' I hq
  | ok fl =>
    cases fl with
    | ret u => exact I.after hq
    | next => exact False.elim hq
    | brk => exact False.elim hq
    | cont => exact False.elim hq
theorem pe_callNS {CX : CXT} {sp : Sp} {E : L2.St → XK} {t tk : TA} (F : FnOk X.prog X.w X.K X.mg X.base CX k f fd ps sp) (hr : Room k X.A) (hg : Gl X x) (hm : X.mg x = some (.ref f)) (hk : PySem.W.keepIn X.K (.ref f) = true) (hb : KBn X.K fd ps n ks g gV) (hx : ∀ σ, PassesAt CX X σ (E σ))
    (ha : PA X es t) (hkw : PK X kws tk) (hall : (backToKw pos (keywordEach kws X.env)).all (·.1.isSome) = true) (hks : (backToKw pos (keywordEach kws X.env)).filterMap (·.1) = ks)
    (hdb : (x == ("__debug__" : Str)) = false) (he : ∃ e r, es = e :: r ∧ starEach (e :: r) X.env = (false, eval e X.env) :: starEach r X.env)
    (hpl : ((backTo pos (starEach es X.env)).any (·.1) || (backToKw pos (keywordEach kws X.env)).any (·.1.isNone)) = false) :
    PE X (.Call (.Name x p) es kws pos) (fun σ H Q => t σ H fun vs H1 => tk σ H1 fun zs H2 => vs.length = n ∧ zs.length = ks.length ∧ sp (gV vs zs) H2 Q (E σ)) := by
  obtain ⟨e, r, rfl, he⟩ := he
  refine ⟨fun pins s σ H Q I h => ?_⟩
  refine wpAny_Call_Name_kw (ld_glob I hg hm ?_ hdb)
  refine PySem.W.callWith_KW (h₀ := X.base) I.ok.mod.kin hk hall (thn (ha.run pos pins s σ H _ I h) fun us s1 ⟨vs, H1, I1, r, q⟩ => ?_) hpl he
  refine thn (hkw.run pos pins s1 σ H1 _ I1 q) fun ws s2 ⟨zs, H2, I2, rz, l1, l2, q2⟩ => ⟨I2.kIn, ?_⟩
  rw [hks]
  exact run_fnNS F hr hb (hx σ) I2 r rz l1 l2 q2
theorem se_fnK (Fn : FnD X k f fd ps S) (ck : CallK X S c) (hr : Room k X.A) (hm : X.mg x = some (.ref f)) (hk : PySem.W.keepIn X.K (.ref f) = true) (hb : KBn X.K fd ps n ks g gV) (hD : ∀ {A F vs zs ds es}, IsL X.K X.mg A F vs ds → IsL X.K X.mg A F zs es → IsL X.K X.mg A F (gV vs zs) (gD ds es)) (sa : SA X (e :: es) t) (sk : SK X kws u)
    (hg : Gl X x := by rfl) (hall : (backToKw pos (keywordEach kws X.env)).all (·.1.isSome) = true := by rfl) (hks : (backToKw pos (keywordEach kws X.env)).filterMap (·.1) = ks := by rfl)
    (hdb : (x == ("__debug__" : Str)) = false := by decide) (he : starEach (e :: es) X.env = (false, eval e X.env) :: starEach es X.env := by rfl)
    (hpl : ((backTo pos (starEach (e :: es) X.env)).any (·.1) || (backToKw pos (keywordEach kws X.env)).any (·.1.isNone)) = false := by rfl) : SE X (.Call (.Name x p) (e :: es) kws pos) (dFnK c gD n ks.length t u) := fun W tk O F A H σ Γ vs T M K R s lf h =>
  bE_of (pe_callNS Fn hr hg hm hk hb (fun σ => passAt tk σ) bA_ok bK_ok hall hks hdb ⟨e, es, rfl, he⟩ hpl) (bA_mono (sa W tk O F A H σ Γ vs T M _ R s lf h) fun ws H1 ⟨ds, M1, F1, A1, s1, q, k⟩ => by
    have e := q.len
    refine bK_mono (sk W tk O F1 A1 H1 σ Γ (ws ++ vs) (ds ++ T) M1 _ R (s1.pushL q) (lf.popL e) k) fun zs H2 ⟨ds2, M2, F2, A2, s2, q2, l1, l2, k2⟩ => ?_
    obtain ⟨s3, q3⟩ := s2.popL e
    exact ⟨e.trans l1, q2.len.trans l2, ck.go s3 lf (hD q3 q2) k2⟩)
end
end L3

namespace L3
open PySem PySem.Spec PyProof.Rows L2 Evl
open Classical

/-! ### statements -/
structure DEnds where
  nx : G → MM → Prop
  rt : Kd
  rz : Rx
  bk : G → MM → Prop := fun _ _ => False
  ct : G → MM → Prop := fun _ _ => False
abbrev DS := DEnds → G → MM → Prop
def Nxt (X : Cx) (O : Org) (vs : List V) (T : List D) (N : G → MM → Prop) : L2.St → Hp → Prop := fun σ' H' => ∃ Γ' M' F' A', StOk X O F' A' H' σ' Γ' vs T M' ∧ N Γ' M'
def Rtn (X : Cx) (O : Org) (vs : List V) (T : List D) (K : Kd) : VK := fun v H' => ∃ d M' F' A' σ' Γ', StOk X O F' A' H' σ' Γ' (v :: vs) (d :: T) M' ∧ K d M'
def liftE (X : Cx) (O : Org) (vs : List V) (T : List D) (E : DEnds) : Ends := { nx := Nxt X O vs T E.nx, rt := Rtn X O vs T E.rt, bk := Nxt X O vs T E.bk, ct := Nxt X O vs T E.ct }
def SS' (X : Cx) (st : Stmt) (t : DS) : Prop := ∀ (W : WX), Takes X W → ∀ O F A H σ Γ vs T M E, StOk X O F A H σ Γ vs T M → Lift X W O vs T E.rz → t E Γ M → bS X st (liftE X O vs T E) σ H
def SB (X : Cx) (st : List Stmt) (t : DS) : Prop := ∀ (W : WX), Takes X W → ∀ O F A H σ Γ vs T M E, StOk X O F A H σ Γ vs T M → Lift X W O vs T E.rz → t E Γ M → bB X st (liftE X O vs T E) σ H
section
variable {X : Cx} {O : Org} {F : Hp} {A : List Addr} {H : Hp} {σ : L2.St} {Γ : G} {vs : List V} {T : List D} {M : MM}
theorem StOk.set (s : StOk X O F A H σ Γ vs T M) (i : Nat) {v : V} {d : D} (h : Is X.K X.mg A F v d) : StOk X O F A H (σ.set i (some v)) (Γ.set i (some d)) vs T M := by
  refine ⟨s.exF, s.exH, s.nw, s.pre, s.keep, s.frs, s.nd, s.inH, s.len, s.cells, by rw [List.length_set, List.length_set]; exact s.sl, fun j e q => ?_, s.tmp⟩
  by_cases hj : i = j
  · subst hj
    have hl : i < Γ.length := by
      have := (List.getElem?_eq_some_iff.mp q).1
      rwa [List.length_set] at this
    rw [List.getElem?_set_self hl] at q
    cases q
    exact ⟨v, List.getElem?_set_self (by rw [s.sl]; exact hl), h⟩
  · rw [List.getElem?_set_ne hj] at q
    obtain ⟨w, h1, h2⟩ := s.slot j e q
    exact ⟨w, by rw [List.getElem?_set_ne hj]; exact h1, h2⟩
/-- a slot forgotten -/
theorem StOk.unset (s : StOk X O F A H σ Γ vs T M) (i : Nat) {o : Option V} : StOk X O F A H (σ.set i o) (Γ.set i none) vs T M := by
  refine ⟨s.exF, s.exH, s.nw, s.pre, s.keep, s.frs, s.nd, s.inH, s.len, s.cells, by rw [List.length_set, List.length_set]; exact s.sl, fun j e q => ?_, s.tmp⟩
  by_cases hj : i = j
  · subst hj
    have hl : i < Γ.length := by
      have := (List.getElem?_eq_some_iff.mp q).1
      rwa [List.length_set] at this
    rw [List.getElem?_set_self hl] at q
    cases q
  · rw [List.getElem?_set_ne hj] at q
    obtain ⟨w, h1, h2⟩ := s.slot j e q
    exact ⟨w, by rw [List.getElem?_set_ne hj]; exact h1, h2⟩
end
def dNext : DS := fun E Γ M => E.nx Γ M
def dSeq (t u : DS) : DS := fun E Γ M => t { E with nx := u E } Γ M
def dRet (t : DE) : DS := fun E Γ M => t Γ M E.rt E.rz
def dRetN : DS := fun E _ M => E.rt .non M
def dDrop (t : DE) : DS := fun E Γ M => t Γ M (fun _ M1 => E.nx Γ M1) E.rz
def dSet (i : Nat) (t : DE) : DS := fun E Γ M => t Γ M (fun d M1 => E.nx (Γ.set i (some d)) M1) E.rz
def dIfS (c : DT) (t u : DS) : DS := fun E Γ M => c Γ M (fun b M1 => if b = true then t E Γ M1 else u E Γ M1) E.rz
def dBrk : DS := fun E Γ M => E.bk Γ M
def dCnt : DS := fun E Γ M => E.ct Γ M
def dNever : DS := fun _ _ _ => False
/-- a, b = x, y -/
def dPar (i j : Nat) (t : DA) : DS := fun E Γ M => t Γ M (fun ds M1 => match ds with
  | [a, b] => E.nx ((Γ.set i (some a)).set j (some b)) M1
  | _ => False) E.rz
section
variable {X : Cx} {st : Stmt} {rest : List Stmt} {e c : Expr} {es : List Expr} {t u : DS} {te : DE} {tc : DT} {ta : DA} {pos pos' : Pos} {a b : List Stmt}
theorem sb_nil : SB X [] dNext := fun W tk O F A H σ Γ vs T M E s lf h => bB_of pss_nil ⟨Γ, M, F, A, s, h⟩
theorem sb_one (hs : SS' X st t) : SB X [st] t := fun W tk O F A H σ Γ vs T M E s lf h => bB_of (pss_one bS_ok) (hs W tk O F A H σ Γ vs T M E s lf h)
theorem bS_mono {D D' : Ends} (h : bS X st D σ H) (q : ∀ σ H, D.nx σ H → D'.nx σ H) (q2 : ∀ v H, D.rt v H → D'.rt v H) (q3 : ∀ σ H, D.bk σ H → D'.bk σ H) (q4 : ∀ σ H, D.ct σ H → D'.ct σ H) : bS X st D' σ H := ⟨fun pins s I => by
  refine thn (h.go pins s I) fun f s' hf => ?_
  cases f with
  | next => obtain ⟨σ', H', I', z⟩ := hf; exact ⟨σ', H', I', q _ _ z⟩
  | brk => obtain ⟨σ', H', I', z⟩ := hf; exact ⟨σ', H', I', q3 _ _ z⟩
  | cont => obtain ⟨σ', H', I', z⟩ := hf; exact ⟨σ', H', I', q4 _ _ z⟩
  | ret u => obtain ⟨v, σ', H', I', r, z⟩ := hf; exact ⟨v, σ', H', I', r, q2 _ _ z⟩⟩
theorem sb_cons (hs : SS' X st t) (hr : SB X rest u) : SB X (st :: rest) (dSeq t u) := fun W tk O F A H σ Γ vs T M E s lf h =>
  bB_of (pss_cons bS_ok bB_ok) (bS_mono (hs W tk O F A H σ Γ vs T M { E with nx := u E } s lf h) (fun σ1 H1 ⟨Γ1, M1, F1, A1, s1, k⟩ => hr W tk O F1 A1 H1 σ1 Γ1 vs T M1 E s1 lf k) (fun _ _ q => q) (fun _ _ q => q) fun _ _ q => q)
theorem ss_ret (sa : SE X e te) : SS' X (.Return (some e) pos) (dRet te) := fun W tk O F A H σ Γ vs T M E s lf h =>
  bS_of (ps_ret bE_ok) (bE_mono (sa W tk O F A H σ Γ vs T M _ _ s lf h) fun v H1 ⟨d, M1, F1, A1, s1, k⟩ => ⟨d, M1, F1, A1, σ, Γ, s1, k⟩)
theorem ss_retN : SS' X (.Return none pos) dRetN := fun W tk O F A H σ Γ vs T M E s lf h => bS_of ps_retN ⟨.non, M, F, A, σ, Γ, s.push .non, h⟩
theorem ss_expr (sa : SE X e te) (hs : swapsWith e none pos.line X.env = pure false := by rfl) : SS' X (.Expr e pos) (dDrop te) := fun W tk O F A H σ Γ vs T M E s lf h =>
  bS_of (ps_expr bE_ok hs) (bE_mono (sa W tk O F A H σ Γ vs T M _ _ s lf h) fun v H1 ⟨d, M1, F1, A1, s1, k⟩ => ⟨Γ, M1, F1, A1, s1.pop, k⟩)
theorem ss_set {i : Nat} {x : Str} (hN : X.N.Nodup) (sa : SE X e te) (hi : X.N[i]? = some x := by rfl) (hx : Loc X.env.scope x := by first | exact .inl rfl | exact .inr rfl) (hs : swapsWith e (some (.Name x pos')) pos.line X.env = pure false := by rfl)
    (hf : X.fn x = true ∨ X.env.scope.names.lookup x = some .local := by first | exact .inl rfl | exact .inr rfl) : SS' X (.Assign [.Name x pos'] e pos) (dSet i te) := fun W tk O F A H σ Γ vs T M E s lf h =>
  bS_of (ps_set (i := i) hN hi hx bE_ok hs hf) (bE_mono (sa W tk O F A H σ Γ vs T M _ _ s lf h) fun v H1 ⟨d, M1, F1, A1, s1, k⟩ => ⟨Γ.set i (some d), M1, F1, A1, s1.pop.set i s1.top, k⟩)
theorem ss_if (sc : ST X c tc) (sa : SB X a t) (sb : SB X b u) : SS' X (.If c a b pos) (dIfS tc t u) := fun W tk O F A H σ Γ vs T M E s lf h =>
  bS_of (ps_if bT_ok bB_ok bB_ok) (bT_mono (sc W tk O F A H σ Γ vs T M _ _ s lf h) fun q H1 ⟨M1, F1, A1, s1, k⟩ => by
    cases q with
    | true => exact sa W tk O F1 A1 H1 σ Γ vs T M1 E s1 lf k
    | false => exact sb W tk O F1 A1 H1 σ Γ vs T M1 E s1 lf k)
theorem ss_pass : SS' X (.Pass pos) dNext := fun W tk O F A H σ Γ vs T M E s lf h => bS_of ps_pass ⟨Γ, M, F, A, s, h⟩
theorem ss_brk : SS' X (.Break pos) dBrk := fun W tk O F A H σ Γ vs T M E s lf h => bS_of ps_break ⟨Γ, M, F, A, s, h⟩
theorem ss_cnt : SS' X (.Continue pos) dCnt := fun W tk O F A H σ Γ vs T M E s lf h => bS_of ps_continue ⟨Γ, M, F, A, s, h⟩
theorem ss_never : SS' X st dNever := fun W tk O F A H σ Γ vs T M E s lf h => h.elim
theorem ss_par {i j : Nat} {x y : Str} {a b : Expr} {px py pt : Pos} {kt k2 : Nat} {pt2 : Pos} (hN : X.N.Nodup) (sa : SA X [a, b] ta) (hw : swappedStores [.Tuple [.Name x px, .Name y py] kt pt] (.Tuple [a, b] k2 pt2) X.env = pure (some [x, y]) := by rfl) (hc : X.calm = true := by rfl)
    (hi : X.N[i]? = some x := by rfl) (hj : X.N[j]? = some y := by rfl) (hij : i ≠ j := by decide) (hx : X.env.scope.names.lookup x = some .local := by rfl) (hy : X.env.scope.names.lookup y = some .local := by rfl)
    (hs : swapsWithSole [.Tuple [.Name x px, .Name y py] kt pt] (.Tuple [a, b] k2 pt2) pos.line X.env = pure false := by rfl) : SS' X (.Assign [.Tuple [.Name x px, .Name y py] kt pt] (.Tuple [a, b] k2 pt2) pos) (dPar i j ta) := fun W tk O F A H σ Γ vs T M E s lf h =>
  bS_of (ps_par (i := i) (j := j) hc hN hi hj hij hx hy bA_ok hw hs) (bA_mono (sa W tk O F A H σ Γ vs T M _ _ s lf h) fun ws H1 ⟨ds, M1, F1, A1, s1, p, k⟩ => by
    match ds, p, k with
    | [d1, d2], .cons r1 (.cons r2 .nil), k => exact ⟨_, _, rfl, _, M1, F1, A1, (s1.set i r1).set j r2, k⟩)
end

/-! ### augmented -/
def bIp (X : Cx) (op : Operator) : TIp := fun x y H Q => ∀ pins s σ v u, Inv X pins σ H s → RelV x v → RelV y u → wpAny (model X.prog X.w) X.A (inplaceOp op v u) (EP X pins σ Q) X.xe s
theorem bIp_ok {X : Cx} {op : Operator} : PIp X op (bIp X op) := fun pins s σ _ _ _ v u _ I r1 r2 h => h pins s σ v u I r1 r2
def dAug (i : Nat) (r : DO2) (t : DE) : DS := fun E Γ M => ∃ d, Γ[i]? = some (some d) ∧ t Γ M (fun d2 M1 => r d d2 M1 (fun d3 M2 => E.nx (Γ.set i (some d3)) M2)) E.rz
section
variable {X : Cx} {e : Expr} {te : DE} {pos pos' : Pos} {op : Operator} {r : DO2}
theorem ss_aug {i : Nat} {x : Str} (hN : X.N.Nodup) (ho : OpD X (inplaceOp op) r) (sa : SE X e te) (hi : X.N[i]? = some x := by rfl) (hx : Loc X.env.scope x := by first | exact .inl rfl | exact .inr rfl)
    (hf : X.fn x = true ∨ X.env.scope.names.lookup x = some .local := by first | exact .inl rfl | exact .inr rfl) : SS' X (.AugAssign (.Name x pos') op e pos) (dAug i r te) := fun W tk O F A H σ Γ vs T M E s lf h => by
  obtain ⟨d, hd, h⟩ := h
  obtain ⟨v, hv, iv⟩ := s.slot i d hd
  refine bS_of (ps_aug (i := i) hN hi hx bE_ok bIp_ok hf) ⟨v, hv, ?_⟩
  refine bE_mono (sa W tk O F A H σ Γ (v :: vs) (d :: T) M _ _ (s.push iv) lf.pop h) fun y H1 ⟨d2, M1, F1, A1, s1, k⟩ => ?_
  have q := ho O F1 A1 H1 σ Γ vs T M1 _ v y d d2 s1.pop.pop s1.pop.top s1.top k
  intro pins s σ' v' u I r1 r2
  exact thn (q.go pins s σ' v' u I r1 r2) fun z s' ⟨w, H', I', rw', d3, M2, F2, A2, s2, k2⟩ => ⟨w, H', I', rw', Γ.set i (some d3), M2, F2, A2, s2.pop.set i s2.top, k2⟩
def rIAddD : DO2 := fun x y M K => match x, y with
  | .int i, .int j => K (.int (i + j)) M
  | .str a, .str b => a.length + b.length ≤ 16777216 ∧ K (.str (a ++ b)) M
  | _, _ => False
theorem opd_iadd : OpD X (inplaceOp .Add) rIAddD := by
  intro O F A H σ Γ vs T M K v1 v2 d1 d2 s i1 i2 h
  cases d1 with
  | int i =>
    cases d2 with
    | int j =>
      rw [is_int i1, is_int i2]
      exact bO_of iop_add ⟨i, j, rfl, rfl, post_c s (.int _) h⟩
    | _ => exact h.elim
  | str a =>
    cases d2 with
    | str b =>
      obtain ⟨hz, k⟩ := h
      have a1 := is_asc i1
      have a2 := is_asc i2
      rw [is_str i1, is_str i2]
      refine bO_of iop_add_str ⟨SS a, SS b, rfl, rfl, ?_, ?_⟩
      · rw [len_SS, len_SS, sizeLine_eq]
        exact hz
      · rw [app_SS]
        exact post_c s (.str _ (a1.app a2)) k
    | _ => exact h.elim
  | _ => exact h.elim
theorem opd_isub : OpD X (inplaceOp .Sub) rSubD := by
  intro O F A H σ Γ vs T M K v1 v2 d1 d2 s i1 i2 h
  cases d1 with
  | int i =>
    cases d2 with
    | int j =>
      rw [is_int i1, is_int i2]
      exact bO_of iop_sub ⟨i, j, rfl, rfl, post_c s (.int _) h⟩
    | _ => exact h.elim
  | _ => exact h.elim
end

/-! ### a changing object changes -/
section
variable {X : Cx} {O : Org} {F : Hp} {A : List Addr} {H : Hp} {σ : L2.St} {Γ : G} {vs : List V} {T : List D} {M : MM}
theorem StOk.mut {k : Nat} {a : Addr} {m' : MO} {o : HO} (s : StOk X O F A H σ Γ vs T M) (ha : A[k]? = some a) (hF : F a = none) (hm' : MoIs X.K X.mg A F (upd H a o) a m') : StOk X O F A (upd H a o) σ Γ vs T (M.set k m') := by
  have hk : k < A.length := (List.getElem?_eq_some_iff.mp ha).1
  have hin : a ∈ A := List.mem_of_getElem? ha
  refine ⟨s.exF, fun b u e => ?_, s.nw, s.pre, fun b u hb e => ?_, s.frs, s.nd, fun b hb => ?_, by rw [List.length_set]; exact s.len, fun j b mo e1 e2 => ?_, s.sl, s.slot, s.tmp⟩
  · rw [upd_ne (fun z => by rw [z, hF] at e; cases e)]
    exact s.exH b u e
  · have hne : b ≠ a := fun z => by
      subst z
      have := s.frs b hin hb
      rw [e] at this
      cases this
    rw [upd_ne hne]
    exact s.keep b u hb e
  · by_cases z : b = a
    · rw [z, upd_same]
      simp
    · rw [upd_ne z]
      exact s.inH b hb
  · by_cases hj : k = j
    · subst hj
      rw [List.getElem?_set_self (by rw [← s.len]; exact hk)] at e2
      cases e2
      rw [ha] at e1
      cases e1
      exact hm'
    · rw [List.getElem?_set_ne hj] at e2
      have hne : b ≠ a := fun z => by
        subst z
        obtain ⟨p1, p2⟩ := List.getElem?_eq_some_iff.mp e1
        obtain ⟨q1, q2⟩ := List.getElem?_eq_some_iff.mp ha
        exact hj ((List.getElem_inj s.nd).mp (q2.trans p2.symm))
      exact (s.cells j b mo e1 e2).mono (Ex.refl _) (List.prefix_refl _) (fun z => z) (upd_ne hne)
/-- a changing list is frozen as it is -/
theorem StOk.frz {k : Nat} {l : List D} (s : StOk X O F A H σ Γ vs T M) (hm : M[k]? = some (.ls l)) : ∃ a F', A[k]? = some a ∧ StOk X O F' A H σ Γ vs T (M.set k .dead) ∧ Is X.K X.mg A F' (.ref a) (.ls l) := by
  have hk : k < A.length := by rw [s.len]; exact (List.getElem?_eq_some_iff.mp hm).1
  obtain ⟨a, ha⟩ : ∃ a, A[k]? = some a := ⟨_, List.getElem?_eq_getElem hk⟩
  obtain ⟨hF, xs, hH, p⟩ := s.cells k a _ ha hm
  have hin : a ∈ A := List.mem_of_getElem? ha
  have ex : Ex F (upd F a (.lst xs)) := Ex.new hF
  refine ⟨a, upd F a (.lst xs), ha, ⟨s.exF.trans ex, fun b u e => ?_, fun b u e => ?_, s.pre, s.keep, s.frs, s.nd, s.inH, by rw [List.length_set]; exact s.len, fun j b mo e1 e2 => ?_, s.sl, fun i d e => ?_, s.tmp.mono ex (List.prefix_refl _)⟩, Is.lsL upd_same (p.mono ex (List.prefix_refl _))⟩
  · by_cases z : b = a
    · subst z
      rw [upd_same] at e
      rw [hH, e]
    · rw [upd_ne z] at e
      exact s.exH b u e
  · by_cases z : b = a
    · by_cases hO : a ∈ O.A
      · exact .inr (.inr (by rw [z]; exact hO))
      · exact .inr (.inl (by rw [z]; exact s.frs a hin hO))
    · rw [upd_ne z] at e
      exact s.nw b u e
  · by_cases hj : k = j
    · subst hj
      rw [List.getElem?_set_self (by rw [← s.len]; exact hk)] at e2
      cases e2
      trivial
    · rw [List.getElem?_set_ne hj] at e2
      have hne : b ≠ a := fun z => by
        subst z
        obtain ⟨p1, p2⟩ := List.getElem?_eq_some_iff.mp e1
        obtain ⟨q1, q2⟩ := List.getElem?_eq_some_iff.mp ha
        exact hj ((List.getElem_inj s.nd).mp (q2.trans p2.symm))
      exact (s.cells j b mo e1 e2).mono ex (List.prefix_refl _) (fun z => by rw [upd_ne hne]; exact z) rfl
  · obtain ⟨v, h1, h2⟩ := s.slot i d e
    exact ⟨v, h1, h2.mono ex (List.prefix_refl _)⟩
end
/-- the changing list at slot i, frozen -/
def dFrz (i : Nat) : DE := fun Γ M K _ => ∃ k l, Γ[i]? = some (some (.cel k)) ∧ M[k]? = some (.ls l) ∧ K (.ls l) (M.set k .dead)
theorem se_frz {X : Cx} {pos : Pos} (i : Nat) {x : Str} (hN : X.N[i]? = some x := by rfl) (hv : Vis X.env.scope x := by first | exact Or.inl rfl | exact Or.inr (Or.inl rfl) | exact Or.inr (Or.inr rfl)) (hd : (x == ("__debug__" : Str)) = false := by decide)
    (hcd : (x == ("__classdict__" : Str)) = false := by decide) : SE X (.Name x pos) (dFrz i) := by
  intro W tk O F A H σ Γ vs T M K R s lf h
  obtain ⟨k, l, e1, e3, kk⟩ := h
  obtain ⟨v, e2, is⟩ := s.slot i _ e1
  obtain ⟨a, F', ha, s', is'⟩ := s.frz e3
  obtain ⟨b, rfl, hb⟩ := is_cel is
  rw [ha] at hb
  cases hb
  exact bE_of (pe_var hN hv hd hcd) ⟨_, e2, .ls l, M.set k .dead, F', A, s'.push is', kk⟩
/-- xs[i] = e of a changing list -/
def dSetIx (to ti te : DE) : DS := fun E Γ M => te Γ M (fun d M1 => to Γ M1 (fun o M2 => ti Γ M2 (fun i M3 => match o, i with
  | .cel k, .int z => ∃ l j, M3[k]? = some (.ls l) ∧ ixN l.length z = some j ∧ E.nx Γ (M3.set k (.ls (l.set j d)))
  | _, _ => False) E.rz) E.rz) E.rz
theorem Paired.st {α β : Type} {R : α → β → Prop} {x : α} {y : β} (r : R x y) : ∀ {l : List α} {m : List β} (n : Nat), Paired R l m → Paired R (l.set n x) (m.set n y)
  | _, _, _, .nil => .nil
  | _, _, 0, .cons _ t => .cons r t
  | _, _, n + 1, .cons q t => .cons q (Paired.st r n t)
def bSet (X : Cx) : TSet := fun o i v H Q => ∃ t, PSet X t ∧ t o i v H Q
theorem bSet_ok {X : Cx} : PSet X (bSet X) := fun pins s σ H o i v ov iv u Q I r1 r2 r3 ⟨t, ht, q⟩ => ht pins s σ H o i v ov iv u Q I r1 r2 r3 q
section
variable {X : Cx} {o i e : Expr} {es : List Expr} {to ti te : DE} {ta : DA} {pos p2 : Pos}
theorem ss_setIx (so : SE X o to) (si : SE X i ti) (sa : SE X e te) (hs : swapsWithSole [.Subscript o i p2] e pos.line X.env = pure false := by rfl) (hw : swappedStores [.Subscript o i p2] e X.env = pure none := by rfl)
    (h1 : (assignEach [.Subscript o i p2] X.env).map (·.2) = [assign (.Subscript o i p2) X.env] := by rfl) (ha : ∀ v, assign (.Subscript o i p2) X.env v = (do
      let ov ← holding [v] (eval o X.env)
      let iv ← holding [v, ov] (eval i X.env)
      standAt p2
      holding [v, ov, iv] (setItem ov iv v)
      release [v, ov, iv] []) := by intro _; rfl) : SS' X (.Assign [.Subscript o i p2] e pos) (dSetIx to ti te) := fun W tk O F A H σ Γ vs T M E s lf h => by
  refine bS_of (ps_asg bE_ok (pg_sub bE_ok bE_ok bSet_ok ha) hs hw h1) ?_
  refine bE_mono (sa W tk O F A H σ Γ vs T M _ _ s lf h) fun v H1 ⟨d, M1, F1, A1, s1, k1⟩ => ?_
  refine bE_mono (so W tk O F1 A1 H1 σ Γ _ _ M1 _ _ s1 lf.pop k1) fun ov H2 ⟨od, M2, F2, A2, s2, k2⟩ => ?_
  refine bE_mono (si W tk O F2 A2 H2 σ Γ _ _ M2 _ _ s2 lf.pop.pop k2) fun iv H3 ⟨id', M3, F3, A3, s3, k3⟩ => ?_
  have i1 := s3.pop.pop.top
  have i2 := s3.pop.top
  have i3 := s3.top
  have s := s3.pop.pop.pop
  cases od with
  | cel k =>
    cases id' with
    | int z =>
      obtain ⟨l, j, hm, hj, kk⟩ := k3
      obtain ⟨a, rfl, ha'⟩ := is_cel i2
      rw [is_int i3]
      obtain ⟨hF, xs, hH, p⟩ := s.cells k a _ ha' hm
      refine ⟨rSetL, set_list, a, xs, z, j, rfl, rfl, hH, by rw [p.len]; exact hj, Γ, M3.set k (.ls (l.set j d)), F3, A3, ?_, kk⟩
      exact s.mut (m' := .ls (l.set j d)) (o := .lst (xs.set j v)) ha' hF ⟨hF, _, upd_same, Paired.st i1 j p⟩
    | _ => exact k3.elim
  | _ => exact k3.elim
/-! ### methods of lists that change them -/
/-- xs.append(e) -/
def dApp (to te : DE) : DE := fun Γ M K R => to Γ M (fun o M1 => match o with
  | .cel k => (∃ l, M1[k]? = some (.ls l)) ∧ te Γ M1 (fun d M2 => ∃ l, M2[k]? = some (.ls l) ∧ l.length < 16777216 ∧ K .non (M2.set k (.ls (l ++ [d])))) R
  | _ => False) R
end
end L3

namespace L3
open PySem PySem.Spec PyProof.Rows L2 Evl
open Classical

/-! ### methods of texts -/
def bM (X : Cx) (id : String) : V → List V → Hp → VK → Prop := fun x xs H Q => ∃ r, MtR X id r ∧ r x xs H Q
theorem bM_ok {X : Cx} {id : String} : MtR X id (bM X id) := fun pins s σ H x xs v us Q I r1 r2 ⟨r, hr, q⟩ => hr pins s σ H x xs v us Q I r1 r2 q
abbrev DM := List Nat → List D → MM → Kd → Prop
def MtD (X : Cx) (id : String) (r : DM) : Prop := ∀ O F A H σ Γ vs T M K ws ds a, StOk X O F A H σ Γ vs T M → Asc a → IsL X.K X.mg A F ws ds → r a ds M K → bM X id (.str (SS a)) ws H (Post X O σ Γ vs T K)
def dM0 (r : DM) (t : DE) : DE := fun Γ M K R => t Γ M (fun d M1 => match d with
  | .str a => r a [] M1 K
  | _ => False) R
def dM (r : DM) (t : DE) (u : DA) : DE := fun Γ M K R => t Γ M (fun d M1 => match d with
  | .str a => u Γ M1 (fun ds M2 => r a ds M2 K) R
  | _ => False) R
section
variable {X : Cx} {o e : Expr} {es : List Expr} {to : DE} {ta : DA} {name : Str} {apos cpos : Pos} {id : String} {r : DM}
theorem se_m0 (slot : Slot "str" name id) (hty : typeOf (.builtin id) = pure (.type "method_descriptor")) (hm : MtD X id r) (so : SE X o to) (hbase : attributeBase o name X.env (eval o X.env) = eval o X.env := by rfl) (hline : (apos.endLine == cpos.line) = true := by rfl) :
    SE X (.Call (.Attribute o name apos) [] [] cpos) (dM0 r to) := fun W tk O F A H σ Γ vs T M K R s lf h =>
  bE_of (pe_bm0 PySem.F.plainAttrs_str slot hty bM_ok bE_ok hbase hline) (bE_mono (so W tk O F A H σ Γ vs T M _ R s lf h) fun v H1 ⟨d, M1, F1, A1, s1, k⟩ => by
    cases d with
    | str a =>
      have ha := is_asc s1.top
      rw [is_str s1.top]
      exact ⟨rfl, hm O F1 A1 H1 σ Γ vs T M1 K [] [] a s1.pop ha .nil k⟩
    | _ => exact k.elim)
theorem se_m (slot : Slot "str" name id) (hty : typeOf (.builtin id) = pure (.type "method_descriptor")) (hm : MtD X id r) (so : SE X o to) (sa : SA X (e :: es) ta) (hbase : attributeBase o name X.env (eval o X.env) = eval o X.env := by rfl)
    (hfew : ((backTo cpos (starEach (e :: es) X.env)).all (fun x => !x.1) && (backToKw cpos (keywordEach [] X.env)).all (fun x => x.1.isSome)
      && decide ((e :: es).length + ([] : List Keyword).length + (if ([] : List Keyword).isEmpty then 0 else 1) < 30)) = true := by rfl)
    (hline : (apos.endLine == cpos.line) = true := by rfl) (hs : starEach (e :: es) X.env = (false, eval e X.env) :: starEach es X.env := by rfl) (hplain : (backTo cpos (starEach es X.env)).any (·.1) = false := by rfl) :
    SE X (.Call (.Attribute o name apos) (e :: es) [] cpos) (dM r to ta) := fun W tk O F A H σ Γ vs T M K R s lf h =>
  bE_of (pe_bm PySem.F.plainAttrs_str slot hty bM_ok bE_ok bA_ok hbase hfew hline hs hplain) (bE_mono (so W tk O F A H σ Γ vs T M _ R s lf h) fun v H1 ⟨d, M1, F1, A1, s1, k⟩ => by
    cases d with
    | str a =>
      have ha := is_asc s1.top
      rw [is_str s1.top]
      exact ⟨rfl, bA_mono (sa W tk O F1 A1 H1 σ Γ vs T M1 _ R s1.pop lf k) fun ws H2 ⟨ds, M2, F2, A2, s2, p, k2⟩ => hm O F2 A2 H2 σ Γ vs T M2 K ws ds a s2 ha p k2⟩
    | _ => exact k.elim)
def mSplit : DM := fun a ds M K => match ds with
  | [.str [c]] => a.length + 2 ≤ 16777216 ∧ K (.ls ((spC c a).map .str)) M
  | _ => False
theorem md_split : MtD X "str.split" mSplit := by
  intro O F A H σ Γ vs T M K ws ds a s ha p h
  match ds, p, h with
  | [.str [c]], .cons r .nil, ⟨hz, k⟩ =>
    have hc := is_asc r c List.mem_cons_self
    rw [is_str r]
    refine ⟨_, mt_split, SS a, SS [c], rfl, rfl, rfl, by rw [len_SS, sizeLine_eq]; exact hz, ?_⟩
    rw [split_SS a c hc]
    exact post_ls s (isL_of_strs _ fun q hq x hx => ha x (spC_sub c a q hq x hx)) k
def mPart : DM := fun a ds M K => match ds with
  | [.str [c]] => a.length ≤ 16777216 ∧ K (.tp [.str (ptC c a).1, .str (ptC c a).2.1, .str (ptC c a).2.2]) M
  | _ => False
theorem ptC_asc {a : List Nat} (c : Nat) (ha : Asc a) : Asc (ptC c a).1 ∧ Asc (ptC c a).2.1 ∧ Asc (ptC c a).2.2 := by
  have e := ptC_eq c a
  refine ⟨ha.sub fun x hx => ?_, ha.sub fun x hx => ?_, ha.sub fun x hx => ?_⟩
  · rw [← e]; exact List.mem_append_left _ hx
  · rw [← e]; exact List.mem_append_right _ (List.mem_append_left _ hx)
  · rw [← e]; exact List.mem_append_right _ (List.mem_append_right _ hx)
theorem md_part : MtD X "str.partition" mPart := by
  intro O F A H σ Γ vs T M K ws ds a s ha p h
  match ds, p, h with
  | [.str [c]], .cons r .nil, ⟨hz, k⟩ =>
    rw [is_str r]
    refine ⟨_, mt_partition, SS a, SS [c], rfl, rfl, rfl, by rw [len_SS, sizeLine_eq]; exact hz, ?_⟩
    rw [partition_SS a c]
    obtain ⟨h1, h2, h3⟩ := ptC_asc c ha
    exact post_tp s (.cons (.str _ h1) (.cons (.str _ h2) (.cons (.str _ h3) .nil))) k
def mJoin : DM := fun a ds M K => match ds with
  | [d] => (match sqOf M d with
    | some l => ∃ ss : List (List Nat), l = ss.map .str ∧ (ss.map (·.length)).sum + ss.length * a.length ≤ 16777216 ∧ K (.str (jn a ss)) M
    | none => False)
  | _ => False
theorem md_join : MtD X "str.join" mJoin := by
  intro O F A H σ Γ vs T M K ws ds a s ha p h
  match ds, p, h with
  | [d], .cons r .nil, h =>
    have h : (match sqOf M d with | some l => ∃ ss : List (List Nat), l = ss.map .str ∧ (ss.map (·.length)).sum + ss.length * a.length ≤ 16777216 ∧ K (.str (jn a ss)) M | none => False) := h
    cases e : sqOf M d with
    | none => rw [e] at h; exact h.elim
    | some l =>
      rw [e] at h
      obtain ⟨ss, rfl, hz, k⟩ := h
      obtain ⟨b, xs, rfl, hq, q⟩ := s.seq r e
      have hx := isL_strs q
      subst hx
      refine ⟨_, mt_join, SS a, b, ss.map SS, rfl, rfl, hq, ?_, ?_⟩
      · rw [List.map_map, List.length_map, len_SS]
        have e2 : ((fun x : Str => x.length) ∘ SS) = fun l => l.length := by
          funext l
          exact len_SS l
        rw [e2]
        exact hz
      · rw [join_SS]
        exact post_c s (.str _ fun x hx => (jn_sub a ss x hx).elim (ha x) fun ⟨p, hp, q2⟩ => isL_asc q p hp x q2) k
def mStarts : DM := fun a ds M K => match ds with
  | [.str b] => K (.bl (b.isPrefixOf a)) M
  | _ => False
theorem md_starts : MtD X "str.startswith" mStarts := by
  intro O F A H σ Γ vs T M K ws ds a s ha p h
  match ds, p, h with
  | [.str b], .cons r .nil, k =>
    rw [is_str r]
    refine ⟨_, mt_startswith, SS a, SS b, rfl, rfl, ?_⟩
    rw [startswith_SS]
    exact post_c s (.bl _) k
def mEnds : DM := fun a ds M K => match ds with
  | [.str b] => K (.bl (b.isSuffixOf a)) M
  | _ => False
theorem md_ends : MtD X "str.endswith" mEnds := by
  intro O F A H σ Γ vs T M K ws ds a s ha p h
  match ds, p, h with
  | [.str b], .cons r .nil, k =>
    rw [is_str r]
    refine ⟨_, mt_endswith, SS a, SS b, rfl, rfl, ?_⟩
    rw [endswith_SS]
    exact post_c s (.bl _) k
end

/-! ### append -/
section
variable {X : Cx} {o e : Expr} {to te : DE} {apos cpos : Pos}
theorem se_app (so : SE X o to) (sa : SE X e te) (hbase : attributeBase o "append" X.env (eval o X.env) = eval o X.env := by rfl)
    (hfew : ((backTo cpos (starEach [e] X.env)).all (fun x => !x.1) && (backToKw cpos (keywordEach [] X.env)).all (fun x => x.1.isSome)
      && decide ([e].length + ([] : List Keyword).length + (if ([] : List Keyword).isEmpty then 0 else 1) < 30)) = true := by rfl)
    (hline : (apos.endLine == cpos.line) = true := by rfl) (hs : starEach [e] X.env = (false, eval e X.env) :: starEach [] X.env := by rfl) (hplain : (backTo cpos (starEach [] X.env)).any (·.1) = false := by rfl) :
    SE X (.Call (.Attribute o "append" apos) [e] [] cpos) (dApp to te) := fun W tk O F A H σ Γ vs T M K R s lf h =>
  bE_of (pe_bm PySem.F.plainAttrs_list PySem.F.slot_list_append PySem.F.type_list_append mt_append bE_ok (pa_cons bE_ok pa_nil hs) hbase hfew hline hs hplain) (bE_mono (so W tk O F A H σ Γ vs T M _ R s lf h) fun v H1 ⟨d, M1, F1, A1, s1, k⟩ => by
    cases d with
    | cel kk =>
      obtain ⟨⟨l0, h0⟩, k⟩ := k
      have s := s1.pop
      obtain ⟨a, rfl, ha⟩ := is_cel s1.top
      obtain ⟨hF0, xs0, hH0, p0⟩ := s.cells kk a _ ha h0
      refine ⟨.inl ⟨rfl, _, sq_of hH0⟩, bE_mono (sa W tk O F1 A1 H1 σ Γ (.ref a :: vs) (.cel kk :: T) M1 _ R s1 lf.pop k) fun y H2 ⟨d2, M2, F2, A2, s2, l2, h2, hz, k3⟩ => ?_⟩
      have i2 := s2.top
      obtain ⟨b, e, hb⟩ := is_cel s2.pop.top
      cases e
      obtain ⟨hF, xs, hH, p⟩ := s2.cells kk a _ hb h2
      refine ⟨a, xs, y, rfl, rfl, hH, by rw [p.len, sizeLine_eq]; exact hz, .non, M2.set kk (.ls (l2 ++ [d2])), F2, A2, ?_, k3⟩
      exact (s2.pop.pop.mut (m' := .ls (l2 ++ [d2])) (o := .lst (xs ++ [y])) hb hF ⟨hF, _, upd_same, Paired.app p (.cons i2 .nil)⟩).push .non
    | _ => exact k.elim)
end
end L3

namespace L3
open PySem PySem.Spec PyProof.Rows L2 Evl
open Classical

/-! ### states in a row; an object outside -/
section
variable {X : Cx} {O : Org} {F F' : Hp} {A A' : List Addr} {H H' : Hp} {σ σ' : L2.St} {Γ Γ' : G} {vs vs' : List V} {T T' : List D} {M M' : MM}
theorem StOk.refl (s : StOk X O F A H σ Γ vs T M) : StOk X ⟨F, H, A⟩ F A H σ Γ vs T M :=
  ⟨Ex.refl _, s.exH, fun _ _ e => .inl e, List.prefix_refl _, fun _ _ _ e => e, fun a h h2 => absurd h h2, s.nd, s.inH, s.len, s.cells, s.sl, s.slot, s.tmp⟩
theorem StOk.trans (s : StOk X O F A H σ Γ vs T M) (s' : StOk X ⟨F, H, A⟩ F' A' H' σ' Γ' vs' T' M') : StOk X O F' A' H' σ' Γ' vs' T' M' := by
  refine ⟨s.exF.trans s'.exF, s'.exH, fun a o e => ?_, s.pre.trans s'.pre, fun a o ha e => ?_, fun a ha hO => ?_, s'.nd, s'.inH, s'.len, s'.cells, s'.sl, s'.slot, s'.tmp⟩
  · rcases s'.nw a o e with h | h | h
    · exact s.nw a o h
    · exact .inr (.inl (s.fr h))
    · by_cases hO : a ∈ O.A
      · exact .inr (.inr hO)
      · exact .inr (.inl (s.frs a h hO))
  · refine s'.keep a o (fun z => ?_) (s.keep a o ha e)
    have := s.frs a z ha
    rw [e] at this
    cases this
  · by_cases h : a ∈ A
    · exact s.frs a h hO
    · exact s.fr (s'.frs a ha h)
theorem Lift.refl {W : WX} {R : Rx} (s : StOk X O F A H σ Γ vs T M) (lf : Lift X W O vs' T' R) : Lift X W ⟨F, H, A⟩ vs' T' R := fun x σ2 Γ2 M2 F2 A2 H2 cls d s2 xi r => lf x σ2 Γ2 M2 F2 A2 H2 cls d (s.trans s2) xi r
/-- an object that is neither known nor one of ours is new or changes -/
theorem StOk.off {p : Addr} {o : HO} (s : StOk X O F A H σ Γ vs T M) (hF : F p = none) (hA : p ∉ A) (hO : O.H p = none) : StOk X O F A (upd H p o) σ Γ vs T M := by
  refine ⟨s.exF, fun b u e => ?_, s.nw, s.pre, fun b u hb e => ?_, s.frs, s.nd, fun b hb => ?_, s.len, fun k b m e1 e2 => ?_, s.sl, s.slot, s.tmp⟩
  · rw [upd_ne (fun z => by rw [z, hF] at e; cases e)]
    exact s.exH b u e
  · rw [upd_ne (fun z => by rw [z, hO] at e; cases e)]
    exact s.keep b u hb e
  · rw [upd_ne (fun z => hA (by rw [← z]; exact hb))]
    exact s.inH b hb
  · have hne : b ≠ p := fun z => hA (by rw [← z]; exact List.mem_of_getElem? e1)
    exact (s.cells k b m e1 e2).mono (Ex.refl _) (List.prefix_refl _) (fun z => z) (upd_ne hne)
/-- .. is known from here on -/
theorem StOk.learn {p : Addr} {o : HO} (s : StOk X O F A H σ Γ vs T M) (hF : F p = none) (hA : p ∉ A) (hO : O.H p = none) (hp : H p = some o) : StOk X O (upd F p o) A H σ Γ vs T M := by
  have ex : Ex F (upd F p o) := Ex.new hF
  refine ⟨s.exF.trans ex, fun b u e => ?_, fun b u e => ?_, s.pre, s.keep, s.frs, s.nd, s.inH, s.len, fun k b m e1 e2 => ?_, s.sl, fun i d e => ?_, s.tmp.mono ex (List.prefix_refl _)⟩
  · by_cases z : b = p
    · subst z
      rw [upd_same] at e
      rw [hp, e]
    · rw [upd_ne z] at e
      exact s.exH b u e
  · by_cases z : b = p
    · exact .inr (.inl (by rw [z]; exact hO))
    · rw [upd_ne z] at e
      exact s.nw b u e
  · have hne : b ≠ p := fun z => hA (by rw [← z]; exact List.mem_of_getElem? e1)
    exact (s.cells k b m e1 e2).mono ex (List.prefix_refl _) (fun z => by rw [upd_ne hne]; exact z) rfl
  · obtain ⟨v, h1, h2⟩ := s.slot i d e
    exact ⟨v, h1, h2.mono ex (List.prefix_refl _)⟩
end

/-! ### what is walked -/
structure WalkD (X : Cx) (J : It) (items : List D) (chk : MM → Prop) (v1 : List V) (T1 : List D) : Prop where
  go : ∀ {O F A H σ Γ vs T M} (i : Nat), StOk X O F A H σ Γ (v1 ++ vs) (T1 ++ T) M → chk M → ∀ d, items[i]? = some d → J.go i H ∧ ∀ x H', J.yld i H x H' → ∃ F', StOk X O F' A H' σ Γ (v1 ++ vs) (T1 ++ T) M ∧ Is X.K X.mg A F' x d
  stop : ∀ {O F A H σ Γ vs T M} (i : Nat), StOk X O F A H σ Γ (v1 ++ vs) (T1 ++ T) M → chk M → items.length ≤ i → J.stop i H
abbrev DIt := G → MM → (List D → (MM → Prop) → MM → Prop) → Rx → Prop
structure BIt (X : Cx) (tg iter : Expr) (σ : L2.St) (H : Hp) (R : It → Hp → Prop) : Prop where
  go : ∀ pins s, Inv X pins σ H s → wpAny (model X.prog X.w) X.A (eval iter X.env) (fun v s1 => wpAny (model X.prog X.w) X.A (pyIter v) (PIE X pins σ tg R) X.xe s1) X.xe s
abbrev bIt (X : Cx) (tg iter : Expr) : TI := fun σ H R => BIt X tg iter σ H R
theorem bIt_ok {X : Cx} {tg iter : Expr} : PI X tg iter (bIt X tg iter) := ⟨fun pins s σ H R I q => q.go pins s I⟩
theorem bIt_of {X : Cx} {tg iter : Expr} {wi : TI} {σ : L2.St} {H : Hp} {R : It → Hp → Prop} (h : PI X tg iter wi) (q : wi σ H R) : bIt X tg iter σ H R := ⟨fun pins s I => h.run pins s σ H R I q⟩
theorem bIt_mono {X : Cx} {tg iter : Expr} {σ : L2.St} {H : Hp} {R R' : It → Hp → Prop} (h : bIt X tg iter σ H R) (q : ∀ J H', R J H' → R' J H') : bIt X tg iter σ H R' := ⟨fun pins s I =>
  thn (h.go pins s I) fun v s1 h1 => thn h1 fun itv s2 ⟨it, fp, tn, J, H', e, I', t, t0, f, r⟩ => ⟨it, fp, tn, J, H', e, I', t, t0, f, q J H' r⟩⟩
def SI (X : Cx) (tg iter : Expr) (t : DIt) : Prop := ∀ (W : WX), Takes X W → ∀ O F A H σ Γ vs T M Kt R, StOk X O F A H σ Γ vs T M → Lift X W O vs T R → t Γ M Kt R →
  bIt X tg iter σ H (fun J H' => ∃ items chk M' F' A' v1 T1, v1.length = T1.length ∧ StOk X O F' A' H' σ Γ (v1 ++ vs) (T1 ++ T) M' ∧ WalkD X J items chk v1 T1 ∧ Kt items chk M')
def iLst (t : DE) : DIt := fun Γ M Kt R => t Γ M (fun d M1 => ∃ l, lsOf M1 d = some l ∧ Kt l (fun M' => lsOf M' d = some l) M1) R
def iTp (t : DE) : DIt := fun Γ M Kt R => t Γ M (fun d M1 => ∃ l, tpOf d = some l ∧ Kt l (fun _ => True) M1) R
def iStr' (t : DE) : DIt := fun Γ M Kt R => t Γ M (fun d M1 => ∃ l, d = .str l ∧ Kt (l.map fun c => .str [c]) (fun _ => True) M1) R
def iR1 (t : DA) : DIt := fun Γ M Kt R => t Γ M (fun ds M1 => ∃ n : Int, ds = [.int n] ∧ n < 2 ^ 62 ∧ -(2 ^ 62) ≤ n ∧ Kt ((List.range n.toNat).map fun i => .int (i : Nat)) (fun _ => True) M1) R
def iR2 (t : DA) : DIt := fun Γ M Kt R => t Γ M (fun ds M1 => ∃ a b : Int, ds = [.int a, .int b] ∧ (-(2 ^ 62) ≤ a ∧ a < 2 ^ 62 ∧ -(2 ^ 62) ≤ b ∧ b < 2 ^ 62) ∧ Kt ((List.range (b - a).toNat).map fun i => .int (a + (i : Nat))) (fun _ => True) M1) R
section
variable {X : Cx} {tg e e2 : Expr} {te : DE} {ta : DA} {p pos : Pos}
theorem rng_items {f : Nat → D} {n i : Nat} {d : D} (h : ((List.range n).map f)[i]? = some d) : i < n ∧ d = f i := by
  rw [List.getElem?_map] at h
  by_cases hi : i < n
  · rw [List.getElem?_range hi] at h
    exact ⟨hi, (Option.some.inj h).symm⟩
  · rw [List.getElem?_eq_none (by simpa using hi)] at h
    cases h
theorem si_lst (sa : SE X e te) : SI X tg e (iLst te) := fun W tk O F A H σ Γ vs T M Kt R s lf h => by
  refine bIt_of (pi_list bE_ok) (bE_mono (sa W tk O F A H σ Γ vs T M _ R s lf h) fun v H1 ⟨d, M1, F1, A1, s1, l, hl, k⟩ => ?_)
  obtain ⟨a, xs, rfl, hq, p⟩ := s1.lst s1.top hl
  refine ⟨a, rfl, ⟨xs, hq⟩, l, _, M1, F1, A1, [.ref a], [d], rfl, s1, ⟨fun {O F A H σ Γ vs T M} i s hc d' hd => ?_, fun {O F A H σ Γ vs T M} i s hc hi => ?_⟩, k⟩
  · obtain ⟨b, ys, e, hq2, p2⟩ := s.lst (StOk.top s) hc
    cases e
    obtain ⟨x, hx, _⟩ := p2.some hd
    refine ⟨⟨ys, x, hq2, hx⟩, fun y H' ⟨e, hy⟩ => ?_⟩
    subst e
    exact ⟨F, s, p2.get i y d' (hy ys hq2) hd⟩
  · obtain ⟨b, ys, e, hq2, p2⟩ := s.lst (StOk.top s) hc
    cases e
    exact ⟨ys, hq2, by rw [p2.len]; exact hi⟩
theorem si_tp (sa : SE X e te) : SI X tg e (iTp te) := fun W tk O F A H σ Γ vs T M Kt R s lf h => by
  refine bIt_of (pi_tup bE_ok) (bE_mono (sa W tk O F A H σ Γ vs T M _ R s lf h) fun v H1 ⟨d, M1, F1, A1, s1, l, hl, k⟩ => ?_)
  obtain ⟨a, xs, rfl, hq, p⟩ := s1.tup s1.top hl
  refine ⟨a, rfl, ⟨xs, hq⟩, l, _, M1, F1, A1, [.ref a], [d], rfl, s1, ⟨fun {O F A H σ Γ vs T M} i s hc d' hd => ?_, fun {O F A H σ Γ vs T M} i s hc hi => ?_⟩, k⟩
  · obtain ⟨b, ys, e, hq2, p2⟩ := s.tup (StOk.top s) hl
    cases e
    obtain ⟨x, hx, _⟩ := p2.some hd
    refine ⟨⟨ys, x, hq2, hx⟩, fun y H' ⟨e, hy⟩ => ?_⟩
    subst e
    exact ⟨F, s, p2.get i y d' (hy ys hq2) hd⟩
  · obtain ⟨b, ys, e, hq2, p2⟩ := s.tup (StOk.top s) hl
    cases e
    exact ⟨ys, hq2, by rw [p2.len]; exact hi⟩
theorem si_str (sa : SE X e te) : SI X tg e (iStr' te) := fun W tk O F A H σ Γ vs T M Kt R s lf h => by
  refine bIt_of (pi_str bE_ok) (bE_mono (sa W tk O F A H σ Γ vs T M _ R s lf h) fun v H1 ⟨d, M1, F1, A1, s1, l, hl, k⟩ => ?_)
  subst hl
  have ha := is_asc s1.top
  refine ⟨SS l, is_str s1.top, _, _, M1, F1, A1, [], [], rfl, s1.pop, ⟨fun {O F A H σ Γ vs T M} i s hc d' hd => ?_, fun {O F A H σ Γ vs T M} i s hc hi => ?_⟩, k⟩
  · rw [List.getElem?_map] at hd
    have hsz : (SS l).cps.size = l.length := by simp
    cases q : l[i]? with
    | none => rw [q] at hd; cases hd
    | some c =>
      rw [q] at hd
      have e : d' = .str [c] := (Option.some.inj hd).symm
      subst e
      refine ⟨by show i < (SS l).cps.size; rw [hsz]; exact (List.getElem?_eq_some_iff.mp q).1, fun y H' ⟨e, c', h1, h2⟩ => ?_⟩
      subst e
      have h1 : l[i]? = some c' := by
        have := h1
        simpa using this
      rw [q] at h1
      cases h1
      have hac : Asc [c] := fun x hx => by
        have e : x = c := by simpa using hx
        rw [e]
        exact ha c (List.mem_of_getElem? q)
      exact ⟨F, s, by rw [h2]; exact .str [c] hac⟩
  · show (SS l).cps.size ≤ i
    have hsz : (SS l).cps.size = l.length := by simp
    rw [hsz]
    simpa using hi
theorem si_r1 (hm : X.mg "range" = none) (sa : SA X [e] ta) (hg : Gl X "range" := by rfl) (hs : starEach [e] X.env = [(false, eval e X.env)] := by rfl) : SI X tg (.Call (.Name "range" p) [e] [] pos) (iR1 ta) := fun W tk O F A H σ Γ vs T M Kt R s lf h => by
  refine bIt_of (pi_range1 hg hm bA_ok hs) (bA_mono (sa W tk O F A H σ Γ vs T M _ R s lf h) fun ws H1 ⟨ds, M1, F1, A1, s1, q, n, e, h1, h2, k⟩ => ?_)
  subst e
  cases q with
  | cons r t =>
    cases t
    rw [is_int r]
    refine ⟨n, rfl, h2, h1, _, _, M1, F1, A1, [], [], rfl, s1, ⟨fun {O F A H σ Γ vs T M} i s hc d' hd => ?_, fun {O F A H σ Γ vs T M} i s hc hi => ?_⟩, k⟩
    · obtain ⟨hi, e⟩ := rng_items hd
      refine ⟨hi, fun y H' ⟨e1, e2⟩ => ?_⟩
      subst e1
      refine ⟨F, s, ?_⟩
      rw [e2, e, Int.zero_add]
      exact .int _
    · show n.toNat ≤ i
      simpa using hi
theorem si_r2 (hm : X.mg "range" = none) (sa : SA X [e, e2] ta) (hg : Gl X "range" := by rfl) (hs : starEach [e, e2] X.env = [(false, eval e X.env), (false, eval e2 X.env)] := by rfl) (hs2 : starEach [e2] X.env = [(false, eval e2 X.env)] := by rfl) :
    SI X tg (.Call (.Name "range" p) [e, e2] [] pos) (iR2 ta) := fun W tk O F A H σ Γ vs T M Kt R s lf h => by
  refine bIt_of (pi_range2 hg hm bA_ok hs hs2) (bA_mono (sa W tk O F A H σ Γ vs T M _ R s lf h) fun ws H1 ⟨ds, M1, F1, A1, s1, q, a, b, e, hab, k⟩ => ?_)
  subst e
  cases q with
  | cons r t =>
    cases t with
    | cons r2 t2 =>
    cases t2
    rw [is_int r, is_int r2]
    refine ⟨a, b, rfl, hab, _, _, M1, F1, A1, [], [], rfl, s1, ⟨fun {O F A H σ Γ vs T M} i s hc d' hd => ?_, fun {O F A H σ Γ vs T M} i s hc hi => ?_⟩, k⟩
    · obtain ⟨hi, e⟩ := rng_items hd
      refine ⟨hi, fun y H' ⟨e1, e2⟩ => ?_⟩
      subst e1
      refine ⟨F, s, ?_⟩
      rw [e2, e]
      exact .int _
    · show (b - a).toNat ≤ i
      simpa using hi
end

/-! ### targets: a name, several names -/
inductive Tgt where
  | nm (i : Nat)
  | tup (is : List Nat)
def gNms : List Nat → TGs
  | [] => gNil
  | i :: r => gCons (gName i) (gNms r)
def Tgt.h (K : PySem.W.Frag) : Tgt → TG
  | .nm i => gName i
  | .tup is => gTup K is.length (gNms is)
def Tgt.slots : Tgt → List Nat
  | .nm i => [i]
  | .tup is => is
def setAll {α : Type} (Γ : List (Option α)) : List Nat → List α → List (Option α)
  | i :: r, d :: ds => setAll (Γ.set i (some d)) r ds
  | _, _ => Γ
def Tgt.d : Tgt → D → G → (G → Prop) → Prop
  | .nm i, d, Γ, Q => Q (Γ.set i (some d))
  | .tup is, .tp ds, Γ, Q => ds.length = is.length ∧ Q (setAll Γ is ds)
  | _, _, _, _ => False
section
variable {X : Cx} {O : Org} {F : Hp} {A : List Addr} {H : Hp} {σ : L2.St} {Γ : G} {vs : List V} {T : List D} {M : MM}
theorem StOk.setAll : ∀ {is : List Nat} {xs : List V} {ds : List D} {σ : L2.St} {Γ : G}, StOk X O F A H σ Γ vs T M → IsL X.K X.mg A F xs ds → StOk X O F A H (L3.setAll σ is xs) (L3.setAll Γ is ds) vs T M
  | [], _, _, _, _, s, _ => s
  | i :: r, _, _, _, _, s, .nil => s
  | i :: r, _, _, _, _, s, .cons h t => StOk.setAll (is := r) (s.set i h) t
theorem gNms_all : ∀ {is : List Nat} {xs : List V} {σ : L2.St} {Q : L2.St → Hp → Prop}, xs.length = is.length → Q (L3.setAll σ is xs) H → gNms is xs σ H Q
  | [], [], _, _, _, q => ⟨rfl, q⟩
  | [], _ :: _, _, _, e, _ => nomatch e
  | _ :: _, [], _, _, e, _ => nomatch e
  | i :: r, x :: xs, σ, Q, e, q => ⟨x, xs, rfl, gNms_all (is := r) (by simpa using e) q⟩
/-- what a target does -/
theorem Tgt.go (tg : Tgt) {x : V} {d : D} {Qd : G → Prop} (s : StOk X O F A H σ Γ vs T M) (i : Is X.K X.mg A F x d) (h : tg.d d Γ Qd) :
    ∃ ys Γ', (∀ Q : L2.St → Hp → Prop, Q (L3.setAll σ tg.slots ys) H → tg.h X.K x σ H Q) ∧ StOk X O F A H (L3.setAll σ tg.slots ys) Γ' vs T M ∧ Qd Γ' := by
  cases tg with
  | nm j => exact ⟨[x], _, fun Q q => q, s.set j i, h⟩
  | tup is =>
    cases d with
    | tp ds =>
      obtain ⟨hl, h⟩ := h
      obtain ⟨a, xs, rfl, hq, p⟩ := s.tup i rfl
      refine ⟨xs, _, fun Q q => ⟨a, xs, rfl, hq, p.len.trans hl, gNms_all (p.len.trans hl) q⟩, s.setAll p, h⟩
    | _ => exact h.elim
end
end L3

namespace L3
open PySem PySem.Spec PyProof.Rows L2 Evl
open Classical

/-! ### for -/
def forD (chk : MM → Prop) (tg : Tgt) (body : DS) (E : DEnds) : List D → G → MM → Prop
  | [], Γ, M => chk M ∧ E.nx Γ M
  | d :: r, Γ, M => chk M ∧ tg.d d Γ fun Γ' => body { E with nx := forD chk tg body E r, ct := forD chk tg body E r, bk := E.nx } Γ' M
def dFor (it : DIt) (tg : Tgt) (body : DS) : DS := fun E Γ M => it Γ M (fun items chk M1 => forD chk tg body E items Γ M1) E.rz
section
variable {X : Cx} {tg iter e c : Expr} {body : List Stmt} {it : DIt} {t : DS} {tc : DT} {pos : Pos} {g : Tgt}
theorem bB_mono {D D' : Ends} {sts : List Stmt} {σ : L2.St} {H : Hp} (h : bB X sts D σ H) (q : ∀ σ H, D.nx σ H → D'.nx σ H) (q2 : ∀ v H, D.rt v H → D'.rt v H) (q3 : ∀ σ H, D.bk σ H → D'.bk σ H) (q4 : ∀ σ H, D.ct σ H → D'.ct σ H) : bB X sts D' σ H := ⟨fun pins s I => by
  refine thn (h.go pins s I) fun f s' hf => ?_
  cases f with
  | next => obtain ⟨σ', H', I', z⟩ := hf; exact ⟨σ', H', I', q _ _ z⟩
  | brk => obtain ⟨σ', H', I', z⟩ := hf; exact ⟨σ', H', I', q3 _ _ z⟩
  | cont => obtain ⟨σ', H', I', z⟩ := hf; exact ⟨σ', H', I', q4 _ _ z⟩
  | ret u => obtain ⟨v, σ', H', I', r, z⟩ := hf; exact ⟨v, σ', H', I', r, q2 _ _ z⟩⟩
theorem nxt_pop {O : Org} {v1 vs : List V} {T1 T : List D} {N : G → MM → Prop} {σ : L2.St} {H : Hp} (e : v1.length = T1.length) (h : Nxt X O (v1 ++ vs) (T1 ++ T) N σ H) : Nxt X O vs T N σ H := by
  obtain ⟨Γ', M', F', A', s, k⟩ := h
  exact ⟨Γ', M', F', A', (s.popL e).1, k⟩
theorem rtn_pop {O : Org} {v1 vs : List V} {T1 T : List D} {K : Kd} {v : V} {H : Hp} (e : v1.length = T1.length) (h : Rtn X O (v1 ++ vs) (T1 ++ T) K v H) : Rtn X O vs T K v H := by
  obtain ⟨d, M', F', A', σ', Γ', s, k⟩ := h
  exact ⟨d, M', F', A', σ', Γ', ((s.pop.popL e).1).push s.top, k⟩
theorem ss_for (si : SI X tg iter it) (hg : PG X tg (g.h X.K)) (sb : SB X body t) (hc : X.calm = true := by rfl) (hp : PassesOwn (model X.prog X.w) X.A X.env X.xe := by first | exact PassesOwn.never | exact passes_of rfl | assumption)
    (hs : ∀ x, foldedSetIterable iter X.env x = pure x := by intro _; rfl) : SS' X (.For tg iter body [] pos) (dFor it g t) := fun W tk O F A H σ Γ vs T M E s lf h => by
  refine bS_of (ps_for (wi := bIt X tg iter) hp hc bIt_ok hg bB_ok hs) ?_
  refine bIt_mono (si W tk O F A H σ Γ vs T M _ _ s lf h) fun J H1 ⟨items, chk, M1, F1, A1, v1, T1, e, s1, wk, k⟩ => ?_
  refine ⟨fun i m σ H => m = items.length - i ∧ i ≤ items.length ∧ Nxt X O (v1 ++ vs) (T1 ++ T) (forD chk g t E (items.drop i)) σ H, ⟨items.length, by simp, Nat.zero_le _, Γ, M1, F1, A1, s1, by simpa using k⟩, ?_⟩
  rintro i m σ2 H2 ⟨rfl, hi, Γ2, M2, F2, A2, s2, k2⟩
  by_cases hlt : i < items.length
  · have hd : items.drop i = items[i] :: items.drop (i + 1) := List.drop_eq_getElem_cons hlt
    rw [hd] at k2
    obtain ⟨hc2, k2⟩ := k2
    obtain ⟨hgo, hyl⟩ := wk.go i s2 hc2 items[i] (List.getElem?_eq_getElem hlt)
    refine .inr ⟨hgo, Nxt X O (v1 ++ vs) (T1 ++ T) (forD chk g t E (items.drop (i + 1))), fun σ' H' hn => ⟨items.length - (i + 1), by omega, rfl, hlt, hn⟩, fun x H' hy => ?_⟩
    obtain ⟨F3, s3, ix⟩ := hyl x H' hy
    obtain ⟨ys, Γ3, hQ, s4, k4⟩ := g.go s3 ix k2
    refine hQ _ ?_
    refine bB_mono (sb W tk O F3 A2 H' _ Γ3 (v1 ++ vs) (T1 ++ T) M2 { E with nx := forD chk g t E (items.drop (i + 1)), ct := forD chk g t E (items.drop (i + 1)), bk := E.nx } s4 (lf.popL e) k4) (fun _ _ q => q) (fun _ _ q => rtn_pop e q) (fun _ _ q => nxt_pop e q) (fun _ _ q => q)
  · have ei : i = items.length := by omega
    subst ei
    rw [List.drop_length] at k2
    obtain ⟨hc2, k2⟩ := k2
    exact .inl ⟨wk.stop items.length s2 hc2 (Nat.le_refl _), nxt_pop e ⟨Γ2, M2, F2, A2, s2, k2⟩⟩

/-! ### while -/
def dWhile (c : DT) (body : DS) : DS := fun E Γ M => ∃ P : Nat → G → MM → Prop, (∃ m, P m Γ M) ∧ ∀ m Γ M, P m Γ M → c Γ M (fun b M1 => if b = true then body { E with nx := fun Γ' M' => ∃ m', m' < m ∧ P m' Γ' M', ct := fun Γ' M' => ∃ m', m' < m ∧ P m' Γ' M', bk := E.nx } Γ M1 else E.nx Γ M1) E.rz
theorem ss_while (sc : ST X c tc) (sb : SB X body t) (hp : PassesOwn (model X.prog X.w) X.A X.env X.xe := by first | exact PassesOwn.never | exact passes_of rfl | assumption) : SS' X (.While c body [] pos) (dWhile tc t) := fun W tk O F A H σ Γ vs T M E s lf h => by
  obtain ⟨P, ⟨m0, p0⟩, hs⟩ := h
  refine bS_of (ps_while hp bT_ok bB_ok) ⟨fun m σ H => Nxt X O vs T (P m) σ H, ⟨m0, Γ, M, F, A, s, p0⟩, ?_⟩
  rintro m σ1 H1 ⟨Γ1, M1, F1, A1, s1, p1⟩
  refine bT_mono (sc W tk O F1 A1 H1 σ1 Γ1 vs T M1 _ _ s1 lf (hs m Γ1 M1 p1)) fun b H2 ⟨M2, F2, A2, s2, k⟩ => ?_
  cases b with
  | true =>
    refine ⟨Nxt X O vs T (fun Γ' M' => ∃ m', m' < m ∧ P m' Γ' M'), fun σ' H' ⟨Γ', M', F', A', s', m', hm, p'⟩ => ⟨m', hm, Γ', M', F', A', s', p'⟩, ?_⟩
    exact bB_mono (sb W tk O F2 A2 H2 σ1 Γ1 vs T M2 { E with nx := fun Γ' M' => ∃ m', m' < m ∧ P m' Γ' M', ct := fun Γ' M' => ∃ m', m' < m ∧ P m' Γ' M', bk := E.nx } s2 lf k) (fun _ _ q => q) (fun _ _ q => q) (fun _ _ q => q) fun _ _ q => q
  | false => exact ⟨Γ1, M2, F2, A2, s2, k⟩
end

/-! ### comprehensions -/
/-- the tests of a clause -/
def STs (X : Cx) (ifs : List Expr) (t : DT) : Prop := (ifs = [] ∧ t = fun _ M K _ => K true M) ∨ ∃ c, ifs = [c] ∧ ST X c t
def qYes : DT := fun _ M K _ => K true M
theorem sts_nil {X : Cx} : STs X [] qYes := .inl ⟨rfl, rfl⟩
theorem sts_one {X : Cx} {c : Expr} {t : DT} (h : ST X c t) : STs X [c] t := .inr ⟨c, rfl, h⟩
def compD (chk : MM → Prop) (tg : Tgt) (tt : DT) (te : DE) (Γw : G) (K : Kd) : List D → List D → MM → Prop
  | [], acc, M => chk M ∧ K (.ls acc) M
  | d :: r, acc, M => chk M ∧ tg.d d Γw fun Γ' => tt Γ' M (fun b M1 => if b = true then te Γ' M1 (fun y M2 => acc.length < 16777216 ∧ compD chk tg tt te Γw K r (acc ++ [y]) M2) (fun _ _ _ => False) else compD chk tg tt te Γw K r acc M1) (fun _ _ _ => False)
def wipeG (Γ : G) : List Nat → G
  | [] => Γ
  | v :: vs => (wipeG Γ vs).set v none
def dLc (it : DIt) (tg : Tgt) (tt : DT) (te : DE) (own : List Nat) : DE := fun Γ M K R => it Γ M (fun items chk M1 => compD chk tg tt te (wipeG Γ own) K items [] M1) R
theorem set_set_none {α : Type} (l : List (Option α)) (v : Nat) (x : Option α) : (l.set v x).set v none = l.set v none := List.set_set ..
theorem wipe_set1 {i : Nat} {x : Option V} : ∀ {own : List Nat} (σ : L2.St), i ∈ own → wipe (σ.set i x) own = wipe σ own
  | v :: vs, σ, h => by
    show (wipe (σ.set i x) vs).set v none = (wipe σ vs).set v none
    by_cases hv : i ∈ vs
    · rw [wipe_set1 σ hv]
    · have e : i = v := (List.mem_cons.mp h).resolve_right hv
      subst e
      have aux : ∀ {vs : List Nat} (σ : L2.St), i ∉ vs → wipe (σ.set i x) vs = (wipe σ vs).set i x := by
        intro vs
        induction vs with
        | nil => intro σ _; rfl
        | cons u us ih =>
          intro σ hn
          have h1 : i ≠ u := fun z => hn (by rw [z]; exact List.mem_cons_self)
          show (wipe (σ.set i x) us).set u none = ((wipe σ us).set u none).set i x
          rw [ih σ fun z => hn (List.mem_cons_of_mem _ z), List.set_comm _ _ h1]
      rw [aux σ hv, set_set_none]
theorem wipe_wipe : ∀ (own sub : List Nat) (σ : L2.St), (∀ i ∈ sub, i ∈ own) → wipe (wipe σ sub) own = wipe σ own
  | own, [], σ, _ => rfl
  | own, v :: vs, σ, h => by
    show wipe ((wipe σ vs).set v none) own = _
    rw [wipe_set1 _ (h v List.mem_cons_self), wipe_wipe own vs σ fun i hi => h i (List.mem_cons_of_mem _ hi)]
theorem wipe_all {own : List Nat} : ∀ {is : List Nat} {ys : List V} (σ : L2.St), (∀ i ∈ is, i ∈ own) → wipe (setAll σ is ys) own = wipe σ own
  | [], _, σ, _ => rfl
  | _ :: _, [], σ, _ => rfl
  | i :: r, y :: ys, σ, h => by
    show wipe (setAll (σ.set i (some y)) r ys) own = _
    rw [wipe_all _ fun j hj => h j (List.mem_cons_of_mem _ hj), wipe_set1 _ (h i List.mem_cons_self)]
section
variable {X : Cx} {O : Org} {F : Hp} {A : List Addr} {H : Hp} {σ : L2.St} {Γ : G} {vs : List V} {T : List D} {M : MM}
theorem StOk.wipe (s : StOk X O F A H σ Γ vs T M) : ∀ own : List Nat, StOk X O F A H (L2.wipe σ own) (wipeG Γ own) vs T M
  | [] => s
  | v :: r => (StOk.wipe s r).unset v
theorem StOk.slots (s : StOk X O F A H σ Γ vs T M) {σ2 : L2.St} {Γ2 : G} {F2 : Hp} {A2 : List Addr} {H2 : Hp} {vs2 : List V} {T2 : List D} {M2 : MM} (s2 : StOk X ⟨F, H, A⟩ F2 A2 H2 σ2 Γ2 vs2 T2 M2) : StOk X ⟨F, H, A⟩ F2 A2 H2 σ Γ vs2 T2 M2 :=
  ⟨s2.exF, s2.exH, s2.nw, s2.pre, s2.keep, s2.frs, s2.nd, s2.inH, s2.len, s2.cells, s.sl, fun i d e => by
    obtain ⟨v, h1, h2⟩ := s.slot i d e
    exact ⟨v, h1, h2.mono s2.exF s2.pre⟩, s2.tmp⟩
end
section
variable {X : Cx} {elt tg iter : Expr} {ifs : List Expr} {scope : Scope} {own : List (Str × Nat)} {pos spos py : Pos} {it : DIt} {g : Tgt} {tt : DT} {te : DE}
/-- the tests as a reading -/
def bTs (X : Cx) (ifs : List Expr) : TT := fun σ H Q => ∀ pins s, Inv X pins σ H s →
  wpAny (model X.prog X.w) X.A (forIn ifs true fun c r => if r = true then do let ok ← isTrue c X.env (eval c X.env); pure (ForInStep.yield ok) else pure (ForInStep.yield r)) (TP X pins σ Q) X.xe s
theorem sts_run {X : Cx} {ifs : List Expr} {t : DT} (h : STs X ifs t) {W : WX} (tk : Takes X W) {O : Org} {F : Hp} {A : List Addr} {H : Hp} {σ : L2.St} {Γ : G} {vs : List V} {T : List D} {M : MM} {K : Kb} {R : Rx} (s : StOk X O F A H σ Γ vs T M) (lf : Lift X W O vs T R) (k : t Γ M K R) : bTs X ifs σ H (PostT X O σ Γ vs T K) := by
  rcases h with ⟨rfl, rfl⟩ | ⟨c, rfl, h⟩
  · exact fun pins s1 I => pts_nil.run pins s1 σ H _ I ⟨M, F, A, s, k⟩
  · exact fun pins s1 I => (pts_one bT_ok).run pins s1 σ H _ I (h W tk O F A H σ Γ vs T M K R s lf k)
def allT (X : Cx) (scope : Scope) (ifs : List Expr) : TT := fun σ H Q => ∀ (s : Shared) (H₀ : Hp) (C : Addr) (cl : List (Str × Addr)) (fp : List Addr), bTs (X.blk s H₀ scope (compEnvC scope cl C X.env) fp) ifs σ H Q
def allE (X : Cx) (scope : Scope) (elt : Expr) : TE := fun σ H Q => ∀ (s : Shared) (H₀ : Hp) (C : Addr) (cl : List (Str × Addr)) (fp : List Addr), bE (X.blk s H₀ scope (compEnvC scope cl C X.env) fp) elt σ H Q
theorem allT_ok (s : Shared) (H : Hp) (C : Addr) (cl : List (Str × Addr)) (fp : List Addr) : PTs (X.blk s H scope (compEnvC scope cl C X.env) fp) ifs (allT X scope ifs) := ⟨fun pins st _ _ _ I h => h s H C cl fp pins st I⟩
theorem allE_ok (s : Shared) (H : Hp) (C : Addr) (cl : List (Str × Addr)) (fp : List Addr) : PE (X.blk s H scope (compEnvC scope cl C X.env) fp) elt (allE X scope elt) := ⟨fun pins st _ _ _ I h => (h s H C cl fp).go pins st I⟩
/-- the reading that both forms share -/
theorem lc_read (si : SI X tg iter it) (hown : ∀ i ∈ g.slots, i ∈ own.map (·.2))
    (ht : ∀ (s : Shared) (H : Hp) (C : Addr) (cl : List (Str × Addr)) (fp : List Addr), STs (X.blk s H scope (compEnvC scope cl C X.env) fp) ifs tt)
    (he : ∀ (s : Shared) (H : Hp) (C : Addr) (cl : List (Str × Addr)) (fp : List Addr), SE (X.blk s H scope (compEnvC scope cl C X.env) fp) elt te)
    {W : WX} (tk : Takes X W) {O : Org} {F : Hp} {A : List Addr} {H : Hp} {σ : L2.St} {Γ : G} {vs : List V} {T : List D} {M : MM} {K : Kd} {R : Rx} (s : StOk X O F A H σ Γ vs T M) (lf : Lift X W O vs T R) (h : dLc it g tt te (own.map (·.2)) Γ M K R) :
    tLc (bIt X tg iter) (g.h X.K) (allT X scope ifs) (allE X scope elt) (own.map (·.2)) σ H (Post X O σ Γ vs T K) := by
  refine bIt_mono (si W tk O F A H σ Γ vs T M _ _ s lf h) fun J H1 ⟨items, chk, M1, F1, A1, v1, T1, e, s1, wk, k⟩ => fun Dl hD => ?_
  have hOD : O.H Dl = none := s1.fr hD
  refine ⟨fun i m H => m = items.length - i ∧ i ≤ items.length ∧ ∃ M F A accV acc, StOk X O F A H σ Γ (v1 ++ vs) (T1 ++ T) M ∧ H Dl = some (.lst accV) ∧ F Dl = none ∧ Dl ∉ A ∧ IsL X.K X.mg A F accV acc ∧ compD chk g tt te (wipeG Γ (own.map (·.2))) K (items.drop i) acc M,
    ⟨items.length, by simp, Nat.zero_le _, M1, F1, A1, [], [], s1.off (fresh_back s1.exH hD) (fun z => s1.inH Dl z hD) hOD, upd_same, fresh_back s1.exH hD, fun z => s1.inH Dl z hD, .nil, by simpa using k⟩, ?_⟩
  rintro i m H2 ⟨rfl, hi, M2, F2, A2, accV, acc, s2, hacc, hF2, hA2, pacc, k2⟩
  by_cases hlt : i < items.length
  · have hd : items.drop i = items[i] :: items.drop (i + 1) := List.drop_eq_getElem_cons hlt
    rw [hd] at k2
    obtain ⟨hc2, k2⟩ := k2
    have r2 := s2.refl
    obtain ⟨hgo, hyl⟩ := wk.go i r2 hc2 items[i] (List.getElem?_eq_getElem hlt)
    refine .inr ⟨hgo, fun H' => ∃ M F A accV acc, StOk X O F A H' σ Γ (v1 ++ vs) (T1 ++ T) M ∧ H' Dl = some (.lst accV) ∧ F Dl = none ∧ Dl ∉ A ∧ IsL X.K X.mg A F accV acc ∧ compD chk g tt te (wipeG Γ (own.map (·.2))) K (items.drop (i + 1)) acc M, fun H' hn => ⟨items.length - (i + 1), by omega, rfl, hlt, hn⟩, fun x H' hy => ?_⟩
    obtain ⟨F3, s3, ix⟩ := hyl x H' hy
    obtain ⟨ys, Γ3, hQ, s4, k4⟩ := g.go (s3.wipe (own.map (·.2))) ix k2
    refine hQ _ ⟨(wipe_all _ hown).trans (wipe_wipe _ _ _ fun _ h => h), fun bs bH bC bcl bfp => ?_⟩
    have t1 := sts_run (ht bs bH bC bcl bfp) takes0 s4 lift0 k4
    refine fun pins bst I => thn (t1 pins bst I) fun b bs2 ⟨H3, I3, M5, F5, A5, s5, k5⟩ => ⟨H3, I3, ?_⟩
    -- what is known of the new list behind a turn
    have fin : ∀ {F6 : Hp} {A6 : List Addr} {H4 : Hp} {σ6 : L2.St} {Γ6 : G} {vs6 : List V} {T6 : List D} {M6 : MM}, StOk X ⟨F2, H2, A2⟩ F6 A6 H4 σ6 Γ6 vs6 T6 M6 → H4 Dl = some (.lst accV) ∧ F6 Dl = none ∧ Dl ∉ A6 ∧ IsL X.K X.mg A6 F6 accV acc := fun {F6 A6 H4 σ6 Γ6 vs6 T6 M6} s6 => by
      refine ⟨s6.keep Dl _ hA2 hacc, ?_, fun z => ?_, pacc.mono s6.exF s6.pre⟩
      · cases q : F6 Dl with
        | none => rfl
        | some o =>
          rcases s6.nw Dl o q with z | z | z
          · cases hF2.symm.trans z
          · cases hacc.symm.trans z
          · exact absurd z hA2
      · cases hacc.symm.trans (s6.frs Dl z hA2)
    cases b with
    | false =>
      obtain ⟨q1, q2, q3, q4⟩ := fin s5
      exact ⟨M5, F5, A5, accV, acc, s2.trans (s2.slots s5), q1, q2, q3, q4, k5⟩
    | true =>
      intro cs cH cC ccl cfp
      refine bE_mono (he cs cH cC ccl cfp _ takes0 ⟨F2, H2, A2⟩ F5 A5 H3 _ Γ3 (v1 ++ vs) (T1 ++ T) M5 _ _ s5 lift0 k5) fun y H4 ⟨d, M6, F6, A6, s6, hz, k6⟩ => ?_
      obtain ⟨q1, q2, q3, q4⟩ := fin s6
      refine ⟨accV, q1, by rw [q4.len, sizeLine_eq]; exact hz, M6, F6, A6, accV ++ [y], acc ++ [d], (s2.trans (s2.slots (StOk.pop s6))).off q2 q3 hOD, upd_same, q2, q3, Paired.app q4 (.cons (StOk.top s6) .nil), k6⟩
  · have ei : i = items.length := by omega
    subst ei
    rw [List.drop_length] at k2
    obtain ⟨hc2, k2⟩ := k2
    refine .inl ⟨wk.stop items.length s2 hc2 (Nat.le_refl _), .ls acc, M2, upd F2 Dl (.lst accV), A2, ?_, k2⟩
    exact ((s2.learn hF2 hA2 hOD hacc).popL e).1.push (Is.lsL upd_same (pacc.mono (Ex.new hF2) (List.prefix_refl _)))
theorem bTs_ok {ifs : List Expr} : PTs X ifs (bTs X ifs) := ⟨fun pins s _ _ _ I h => h pins s I⟩
theorem se_lc (hN : X.N.Nodup) (si : SI X tg iter it) (ok : BlkOk X.N X.env.scope scope own) (hown : ∀ i ∈ g.slots, i ∈ own.map (·.2))
    (hg : ∀ (s : Shared) (H : Hp) (C : Addr) (cl : List (Str × Addr)) (fp : List Addr), PG (X.blk s H scope (compEnvC scope cl C X.env) fp) tg (g.h X.K))
    (ht : ∀ (s : Shared) (H : Hp) (C : Addr) (cl : List (Str × Addr)) (fp : List Addr), STs (X.blk s H scope (compEnvC scope cl C X.env) fp) ifs tt)
    (he : ∀ (s : Shared) (H : Hp) (C : Addr) (cl : List (Str × Addr)) (fp : List Addr), SE (X.blk s H scope (compEnvC scope cl C X.env) fp) elt te) (hc : X.calm = true := by rfl) (hs : ∀ x, foldedSetIterable iter X.env x = pure x := by intro _; rfl) :
    SE X (.ListComp elt [⟨tg, iter, ifs, 0⟩] scope pos) (dLc it g tt te (own.map (·.2))) := fun W tk O F A H σ Γ vs T M K R s lf h =>
  bE_of (pe_lc hc hN bIt_ok ok hg allT_ok allE_ok hs) (lc_read si hown ht he tk s lf h)
/-- name = [..] on one line -/
theorem ss_setLc {i : Nat} {y : Str} (hN : X.N.Nodup) (si : SI X tg iter it) (ok : BlkOk X.N X.env.scope scope own) (hown : ∀ i ∈ g.slots, i ∈ own.map (·.2))
    (hg : ∀ (s : Shared) (H : Hp) (C : Addr) (cl : List (Str × Addr)) (fp : List Addr), PG (X.blk s H scope (compEnvC scope cl C X.env) fp) tg (g.h X.K))
    (ht : ∀ (s : Shared) (H : Hp) (C : Addr) (cl : List (Str × Addr)) (fp : List Addr), STs (X.blk s H scope (compEnvC scope cl C X.env) fp) ifs tt)
    (he : ∀ (s : Shared) (H : Hp) (C : Addr) (cl : List (Str × Addr)) (fp : List Addr), SE (X.blk s H scope (compEnvC scope cl C X.env) fp) elt te) (hc : X.calm = true := by rfl) (hy : X.N[i]? = some y := by rfl) (hyl : X.env.scope.names.lookup y = some .local := by rfl)
    (hsw : swapsWith (.ListComp elt [⟨tg, iter, ifs, 0⟩] scope pos) (some (.Name y py)) spos.line X.env = pure true := by exact sw_true rfl rfl rfl (by decide +kernel)) (hs : ∀ x, foldedSetIterable iter X.env x = pure x := by intro _; rfl) :
    SS' X (.Assign [.Name y py] (.ListComp elt [⟨tg, iter, ifs, 0⟩] scope pos) spos) (dSet i (dLc it g tt te (own.map (·.2)))) := fun W tk O F A H σ Γ vs T M E s lf h => by
  refine bS_of (ps_setLc (i := i) hc hN hy hyl hsw bIt_ok ok hg allT_ok allE_ok hs) ?_
  refine bIt_mono (lc_read si hown ht he tk s lf h) fun J H1 hq Dl hD => ?_
  obtain ⟨Wt, w0, hw⟩ := hq Dl hD
  refine ⟨Wt, w0, fun i m H w => ?_⟩
  rcases hw i m H w with ⟨h1, d, M', F', A', s1, k⟩ | h2
  · exact .inl ⟨h1, Γ.set _ (some d), M', F', A', s1.pop.set _ s1.top, k⟩
  · exact .inr h2
end
end L3

namespace L3
open PySem PySem.Spec PyProof.Rows L2 Evl
open Classical

/-! ### a def keeps its promise -/
def startG (n : Nat) (ds : List D) : G := ds.map some ++ List.replicate (n - ds.length) none
def OkM (n : Nat) (M : MM) : Prop := ∀ m ∈ M.take n, GrM m
/-- the end of a def that hands back plain data -/
def endG (n : Nat) (K0 : Kd) (R0 : Kx) : DEnds where
  nx := fun _ M' => OkM n M' ∧ K0 .non (M'.take n)
  rt := fun d M' => Gr d ∧ OkM n M' ∧ K0 d (M'.take n)
  rz := fun x _ M' => (∀ d ∈ x.l, Gr d) ∧ OkM n M' ∧ R0 x (M'.take n)
/-- .. a changing object of its own making -/
def endN (n : Nat) (K0 : Kd) (R0 : Kx) : DEnds where
  nx := fun _ _ => False
  rt := fun d M' => OkM n M' ∧ ∃ k m, d = .cel k ∧ n ≤ k ∧ M'[k]? = some m ∧ GrM m ∧ K0 (.cel n) (M'.take n ++ [m])
  rz := fun x _ M' => (∀ d ∈ x.l, Gr d) ∧ OkM n M' ∧ R0 x (M'.take n)
/-- .. all as it is -/
def endW (_ : Nat) (K0 : Kd) (R0 : Kx) : DEnds where
  nx := fun _ M' => K0 .non M'
  rt := fun d M' => K0 d M'
  rz := fun x _ M' => R0 x M'
structure EndOk (en : Nat → Kd → Kx → DEnds) : Prop where
  bk : ∀ {n K0 R0 Γ M}, (en n K0 R0).bk Γ M → False
  ct : ∀ {n K0 R0 Γ M}, (en n K0 R0).ct Γ M → False
  rt : ∀ {X : Cx} {F0 : Hp} {A0 : List Addr} {H0 : Hp} {n : Nat} {K0 : Kd} {R0 : Kx} {F' A' H' σ' Γ' vs T M' v d}, n = A0.length → StOk X ⟨F0, H0, A0⟩ F' A' H' σ' Γ' vs T M' → Is X.K X.mg A' F' v d → (en n K0 R0).rt d M' →
    ∃ A2 M2 d2, Went F0 A0 H0 F' A2 H' ∧ Mem X.K X.mg F' A2 H' M2 ∧ Is X.K X.mg A2 F' v d2 ∧ K0 d2 M2
  nx : ∀ {X : Cx} {F0 : Hp} {A0 : List Addr} {H0 : Hp} {n : Nat} {K0 : Kd} {R0 : Kx} {F' A' H' σ' Γ' vs T M'}, n = A0.length → StOk X ⟨F0, H0, A0⟩ F' A' H' σ' Γ' vs T M' → (en n K0 R0).nx Γ' M' →
    ∃ A2 M2, Went F0 A0 H0 F' A2 H' ∧ Mem X.K X.mg F' A2 H' M2 ∧ K0 .non M2
  rz : ∀ {X : Cx} {F0 : Hp} {A0 : List Addr} {H0 : Hp} {n : Nat} {K0 : Kd} {R0 : Kx} {F' A' H' σ' Γ' vs T M' cls dd x}, n = A0.length → StOk X ⟨F0, H0, A0⟩ F' A' H' σ' Γ' vs T M' → XIs X.K X.mg A' F' cls dd x → (en n K0 R0).rz x Γ' M' →
    ∃ A2 M2, Went F0 A0 H0 F' A2 H' ∧ Mem X.K X.mg F' A2 H' M2 ∧ XIs X.K X.mg A2 F' cls dd x ∧ R0 x M2
section
variable {X : Cx} {F0 : Hp} {A0 : List Addr} {H0 : Hp} {n : Nat} {F' : Hp} {A' : List Addr} {H' : Hp} {σ' : L2.St} {Γ' : G} {vs : List V} {T : List D} {M' : MM}
theorem exit_mem (hn : n = A0.length) (s : StOk X ⟨F0, H0, A0⟩ F' A' H' σ' Γ' vs T M') (g : OkM n M') : Went F0 A0 H0 F' A0 H' ∧ Mem X.K X.mg F' A0 H' (M'.take n) := by
  obtain ⟨r, hr⟩ := s.pre
  have hr : A0 ++ r = A' := hr
  have hl := s.len
  refine ⟨⟨s.exF, List.prefix_refl _, s.keep, fun a h h2 => absurd h h2, s.nw⟩, s.exH, ?_, fun a ha => s.inH a (by rw [← hr]; exact List.mem_append_left _ ha), ?_, fun k a m e1 e2 => ?_⟩
  · have := s.nd
    rw [← hr] at this
    exact (List.nodup_append.mp this).1
  · rw [List.length_take, ← hl, ← hr, List.length_append]
    omega
  · have hk : k < A0.length := (List.getElem?_eq_some_iff.mp e1).1
    have e3 : A'[k]? = some a := by
      rw [← hr, List.getElem?_append_left hk]
      exact e1
    have hm : m ∈ M'.take n := List.mem_of_getElem? e2
    rw [List.getElem?_take] at e2
    rw [if_pos (by omega)] at e2
    exact (s.cells k a m e3 e2).gr (g m hm)
theorem end_g : EndOk endG := by
  refine ⟨fun h => h, fun h => h, ?_, ?_, ?_⟩
  · intro X F0 A0 H0 n K0 R0 F' A' H' σ' Γ' vs T M' v d hn s i h
    obtain ⟨g, o, k⟩ := h
    obtain ⟨w, m⟩ := exit_mem hn s o
    exact ⟨A0, _, d, w, m, i.gr g, k⟩
  · intro X F0 A0 H0 n K0 R0 F' A' H' σ' Γ' vs T M' hn s h
    obtain ⟨o, k⟩ := h
    obtain ⟨w, m⟩ := exit_mem hn s o
    exact ⟨A0, _, w, m, k⟩
  · intro X F0 A0 H0 n K0 R0 F' A' H' σ' Γ' vs T M' cls dd x hn s i h
    obtain ⟨g, o, k⟩ := h
    obtain ⟨w, m⟩ := exit_mem hn s o
    exact ⟨A0, _, w, m, i.gr g, k⟩
theorem end_n : EndOk endN := by
  refine ⟨fun h => h, fun h => h, ?_, ?_, ?_⟩
  · intro X F0 A0 H0 n K0 R0 F' A' H' σ' Γ' vs T M' v d hn s i h
    obtain ⟨o, k, mo, rfl, hk, hm, gm, kk⟩ := h
    obtain ⟨w, m⟩ := exit_mem hn s o
    obtain ⟨a, rfl, ha⟩ := is_cel i
    obtain ⟨r, hr⟩ := s.pre
    have hr : A0 ++ r = A' := hr
    have hin : a ∈ A' := List.mem_of_getElem? ha
    have hnA : a ∉ A0 := fun z => by
      have hnd := s.nd
      rw [← hr] at ha hnd
      rw [List.getElem?_append_right (by omega)] at ha
      exact (List.nodup_append.mp hnd).2.2 a z a (List.mem_of_getElem? ha) rfl
    have hl0 := m.len
    refine ⟨A0 ++ [a], M'.take n ++ [mo], .cel n, ⟨w.exF, ⟨[a], rfl⟩, w.keep, fun b hb hb2 => ?_, w.nw⟩, ⟨m.ex, ?_, fun b hb => ?_, by simp [hl0], fun j b mo' e1 e2 => ?_⟩, .cel (by rw [List.getElem?_append_right (by omega), hn, Nat.sub_self]; rfl), kk⟩
    · rcases List.mem_append.mp hb with z | z
      · exact absurd z hb2
      · have e : b = a := by simpa using z
        rw [e]
        exact s.frs a hin hnA
    · rw [List.nodup_append]
      exact ⟨m.nd, by simp, fun b hb c hc e => hnA (by
        have e2 : c = a := by simpa using hc
        rw [← e2, ← e]
        exact hb)⟩
    · rcases List.mem_append.mp hb with z | z
      · exact m.inH b z
      · have e : b = a := by simpa using z
        rw [e]
        exact s.inH a hin
    · by_cases hj : j < A0.length
      · rw [List.getElem?_append_left hj] at e1
        rw [List.getElem?_append_left (by rw [← hl0]; exact hj)] at e2
        exact (m.cells j b mo' e1 e2).mono (Ex.refl _) ⟨[a], rfl⟩ (fun z => z) rfl
      · rw [List.getElem?_append_right (by omega)] at e1
        rw [List.getElem?_append_right (by rw [← hl0]; omega), ← hl0] at e2
        have hj0 : j - A0.length = 0 := by
          have := (List.getElem?_eq_some_iff.mp e1).1
          simp at this
          omega
        rw [hj0] at e1 e2
        have e3 : a = b := by simpa using e1
        have e4 : mo = mo' := by simpa using e2
        subst e3; subst e4
        exact (s.cells k a mo ha hm).gr gm
  · intro X F0 A0 H0 n K0 R0 F' A' H' σ' Γ' vs T M' hn s h
    exact h.elim
  · intro X F0 A0 H0 n K0 R0 F' A' H' σ' Γ' vs T M' cls dd x hn s i h
    obtain ⟨g, o, k⟩ := h
    obtain ⟨w, m⟩ := exit_mem hn s o
    exact ⟨A0, _, w, m, i.gr g, k⟩
theorem exit_all (s : StOk X ⟨F0, H0, A0⟩ F' A' H' σ' Γ' vs T M') : Went F0 A0 H0 F' A' H' ∧ Mem X.K X.mg F' A' H' M' :=
  ⟨⟨s.exF, s.pre, s.keep, s.frs, s.nw⟩, s.exH, s.nd, s.inH, s.len, s.cells⟩
theorem end_w : EndOk endW := by
  refine ⟨fun h => h, fun h => h, ?_, ?_, ?_⟩
  · intro X F0 A0 H0 n K0 R0 F' A' H' σ' Γ' vs T M' v d hn s i h
    exact ⟨A', _, d, (exit_all s).1, (exit_all s).2, i, h⟩
  · intro X F0 A0 H0 n K0 R0 F' A' H' σ' Γ' vs T M' hn s h
    exact ⟨A', _, (exit_all s).1, (exit_all s).2, h⟩
  · intro X F0 A0 H0 n K0 R0 F' A' H' σ' Γ' vs T M' cls dd x hn s i h
    exact ⟨A', _, (exit_all s).1, (exit_all s).2, i, h⟩
end
section
variable {P : Program} {w : World} {K : PySem.W.Frag} {mg : Str → Option Value} {base : Heap}
theorem start_ok {N : List Str} {F0 : Hp} {A0 : List Addr} {H : Hp} {M : MM} {vs : List V} {ds : List D} (m : Mem K mg F0 A0 H M) (p : IsL K mg A0 F0 vs ds) : StK K mg ⟨F0, H, A0⟩ F0 A0 H (L2.start N vs) (startG N.length ds) [] [] M := by
  refine ⟨Ex.refl _, m.ex, fun _ _ e => .inl e, List.prefix_refl _, fun _ _ _ e => e, fun a h h2 => absurd h h2, m.nd, m.inH, m.len, m.cells, ?_, fun i d e => ?_, .nil⟩
  · unfold L2.start startG
    rw [List.length_append, List.length_append, List.length_map, List.length_map, List.length_replicate, List.length_replicate, p.len]
  · unfold startG at e
    by_cases hi : i < ds.length
    · rw [List.getElem?_append_left (by simpa using hi), List.getElem?_map] at e
      cases q : ds[i]? with
      | none => rw [q] at e; cases e
      | some d' =>
        rw [q] at e
        cases e
        obtain ⟨v, hv, iv⟩ := p.some q
        refine ⟨v, ?_, iv⟩
        unfold L2.start
        rw [List.getElem?_append_left (by rw [List.length_map, p.len]; exact hi), List.getElem?_map, hv]
        rfl
    · rw [List.getElem?_append_right (by simpa using Nat.le_of_not_lt hi)] at e
      have := List.mem_of_getElem? e
      rw [List.mem_replicate] at this
      cases this.2
/-- the context of a body -/
abbrev cxD (P : Program) (w : World) (K : PySem.W.Frag) (mg : Str → Option Value) (base : Heap) (N : List Str) (qual : Str) (scope : Scope) (f : Addr) (cdv : Value) (A : Around) (outer : List Env) (s : Shared) (H : Hp) (E : XK) : Cx := cxOf (L2.CX P w) P w K mg base N qual scope f cdv A outer s H E
/-- the body read by data, in every context -/
def BodyD (P : Program) (w : World) (K : PySem.W.Frag) (mg : Str → Option Value) (base : Heap) (N : List Str) (qual : Str) (st : Stmt) (f : Addr) (k : Nat) (rd : DS) : Prop :=
  ∀ (cdv : Value) (A : Around) (outer : List Env) (s : Shared) (H : Hp) (E : XK), Room k (A.deeper (envOfC qual (defScope st) s.heap.objs.size f cdv)) → SB (cxD P w K mg base N qual (defScope st) f cdv A outer s H E) (defBody st) rd
theorem fn_any {x qual : Str} {st : Stmt} {f : Addr} {fd : FuncData} {N ps : List Str} {k : Nat} {S : DSpec} {rd : DS} {en : Nat → Kd → Kx → DEnds} (F : Fun K x qual st f fd) (Sc : FnScope N ps (defScope st)) (eo : EndOk en) (len : ∀ ds M K0 R0, S ds M K0 R0 → ds.length = ps.length)
    (body : BodyD P w K mg base N qual st f k rd) (sem : ∀ ds M K0 R0, S ds M K0 R0 → rd (en M.length K0 R0) (startG N.length ds) M) : FnOk P w K mg base (L2.CX P w) (k + 1) f fd ps (spOf K mg S) := by
  refine F.okX Sc (fun vs H Q E h => ?_) (fun cdv A outer s H vs Q E hr hsp => ⟨_, bB_ok, ?_⟩)
  · obtain ⟨F0, A0, M, ds, K0, R0, m, p, hS, _⟩ := h
    rw [p.len]
    exact len ds M K0 R0 hS
  · obtain ⟨F0, A0, M, ds, K0, R0, m, p, hS, hq, he⟩ := hsp
    have hb := body cdv A outer s H E hr
    have st0 : StOk (cxD P w K mg base N qual (defScope st) f cdv A outer s H E) ⟨F0, H, A0⟩ F0 A0 H (L2.start N vs) (startG N.length ds) [] [] M := start_ok m p
    have tk : Takes (cxD P w K mg base N qual (defScope st) f cdv A outer s H E) (fun cls d _ H => E cls d H) := takes_of rfl rfl rfl rfl
    refine bB_mono (hb _ tk ⟨F0, H, A0⟩ F0 A0 H _ _ [] [] M (en M.length K0 R0) st0 ?_ (sem ds M K0 R0 hS)) ?_ ?_ ?_ ?_
    · intro x' σ' Γ' M' F' A' H' cls d s' xi h
      obtain ⟨A2, M2, w2, m2, i2, k2⟩ := eo.rz (K0 := K0) m.len.symm s' xi h
      exact he x' M2 k2 cls d F' A2 H' w2 m2 i2
    · rintro σ' H' ⟨Γ', M', F', A', s', h⟩
      obtain ⟨A2, M2, w2, m2, k2⟩ := eo.nx (R0 := R0) m.len.symm s' h
      exact hq .non M2 k2 .non F' A2 H' w2 m2 .non
    · rintro v H' ⟨d, M', F', A', σ', Γ', s', h⟩
      obtain ⟨A2, M2, d2, w2, m2, i2, k2⟩ := eo.rt (R0 := R0) m.len.symm s'.pop s'.top h
      exact hq d2 M2 k2 v F' A2 H' w2 m2 i2
    · rintro σ' H' ⟨Γ', M', F', A', s', h⟩
      exact eo.bk h
    · rintro σ' H' ⟨Γ', M', F', A', s', h⟩
      exact eo.ct h
end
end L3

namespace L3
open PySem PySem.Spec PyProof.Rows L2 Evl
open Classical
/-! ### isinstance of a built-in type -/
def tyD (M : MM) : D → Option String
  | .non => some "NoneType"
  | .bl _ => some "bool"
  | .int _ => some "int"
  | .str _ => some "str"
  | .ls _ => some "list"
  | .tp _ => some "tuple"
  | .cel k => match M[k]? with
    | some (.ls _) => some "list"
    | _ => none
  | _ => none
def rIsiD : DC := fun ds M K => match ds with
  | [d, .ty n] => ∃ t b, tyD M d = some t ∧ kitB t n = some b ∧ K (.bl b) M
  | _ => False
section
variable {X : Cx}
theorem tyX_of {O : Org} {F : Hp} {A : List Addr} {H : Hp} {σ : L2.St} {Γ : G} {vs : List V} {T : List D} {M : MM} (s : StOk X O F A H σ Γ vs T M) {v : V} {d : D} (i : Is X.K X.mg A F v d) {t : String} (h : tyD M d = some t) : TyX X.K H v (.type t) := by
  cases d with
  | non => cases h; rw [is_non i]; exact .base .non
  | bl b => cases h; rw [is_bl i]; exact .base (.bl b)
  | int b => cases h; rw [is_int i]; exact .base (.int b)
  | str b => cases h; rw [is_str i]; exact .base (.str _)
  | ls l =>
    cases h
    obtain ⟨a, xs, rfl, e, _⟩ := is_ls i
    exact .base (.lst (s.exH _ _ e))
  | tp l =>
    cases h
    obtain ⟨a, xs, rfl, hq, _⟩ := s.tup i rfl
    rcases hq with (hq | ⟨o, hq⟩) | ⟨o, its, n, hk, hc, _⟩
    · exact .base (.tup hq)
    · exact .fTuple hq
    · exact .kTuple hk hc
  | cel k =>
    have h : (match M[k]? with | some (.ls _) => some "list" | _ => none) = some t := h
    cases q : M[k]? with
    | none => rw [q] at h; cases h
    | some m =>
      rw [q] at h
      cases m with
      | ls l =>
        cases h
        obtain ⟨a, xs, rfl, e, _⟩ := s.own (l := l) i (show (match M[k]? with | some (.ls l) => some l | _ => none) = some l by rw [q])
        exact .base (.lst e)
      | _ => cases h
  | _ => cases h
theorem cd_isi : CallD X (.builtin "isinstance") rIsiD := by
  intro O F A H σ Γ vs T M K ws ds s p h
  match ds, p, h with
  | [d, .ty n], .cons r (.cons r2 .nil), ⟨t, b, h1, h2, k⟩ =>
    rw [is_ty r2]
    exact ⟨_, call_isi, _, .ty n, .type t, .type n, b, rfl, .ty n, tyX_of s r h1, kit_ty h2, post_c s (.bl _) k⟩
/-- a built-in type's name as a value -/
theorem se_ty {x : Str} {n : String} {pos : Pos} (hm : X.mg x = none) (hv : bootBuiltins x = some (.type n) := by decide +kernel) (hg : Gl X x := by rfl) (hn : x ≠ "__name__" := by decide) (hd : (x == ("__debug__" : Str)) = false := by decide) : SE X (.Name x pos) (dC (.ty n)) :=
  se_c (pe_bltn (v := .ty n) hg hm hv rfl hn hd) fun _ _ => .ty n
end
/-! ### a def as its callers know it: n of its parameters' values dv are defaults -/
structure FD (P : Program) (w : World) (K : PySem.W.Frag) (mg : Str → Option Value) (base : Heap) (x : Str) (k : Nat) (S : DSpec) (dv : List D) : Prop where
  ex : ∃ f fd ps dV dvs, FnOk P w K mg base (L2.CX P w) k f fd ps (spOf K mg S) ∧ mg x = some (.ref f) ∧ PySem.W.keepIn K (.ref f) = true ∧ Binds K fd ps dV ∧ Vals dvs dV ∧ ∀ A F, IsL K mg A F dvs dv
section
variable {X : Cx} {k : Nat} {S : DSpec} {c : CK} {x : Str} {p pos : Pos} {e : Expr} {es : List Expr} {t : DA} {dv : List D}
theorem se_fd (h : FD X.prog X.w X.K X.mg X.base x k S dv) (ck : CallK X S c) (hr : Room k X.A) (sa : SA X (e :: es) t) (hg : Gl X x := by rfl)
    (hdb : (x == ("__debug__" : Str)) = false := by decide) (he : starEach (e :: es) X.env = (false, eval e X.env) :: starEach es X.env := by rfl) (hpl : (backTo pos (starEach es X.env)).any (·.1) = false := by rfl) : SE X (.Call (.Name x p) (e :: es) [] pos) (dFn c dv t) := by
  obtain ⟨f, fd, ps, dV, dvs, F, m, kp, b, v, i⟩ := h.ex
  exact se_fn F ck hr m kp b v i sa hg hdb he hpl
theorem se_fd0 (h : FD X.prog X.w X.K X.mg X.base x k S dv) (ck : CallK X S c) (hr : Room k X.A) (hg : Gl X x := by rfl) (hdb : (x == ("__debug__" : Str)) = false := by decide) : SE X (.Call (.Name x p) [] [] pos) (dFn0 c dv) := by
  obtain ⟨f, fd, ps, dV, dvs, F, m, kp, b, v, i⟩ := h.ex
  exact se_fn0 F ck hr m kp b v i hg hdb
end
/-! ### the law's own end -/
def spLaw (K : PySem.W.Frag) : Sp := fun vs H Q _ => ∃ (a : Addr) (ns : List Int), vs = [.ref a] ∧ SqL K H a (ns.map V.int) ∧ ns.length ≤ 63 ∧ ∀ H', Q (.bl true) H'
/-- what a law asks: of every list of ints it tells True, and raises nothing -/
def sLaw : DSpec := fun ds M K _ => ∃ ns : List Int, ds = [.rl (ns.map .int)] ∧ M = [] ∧ ns.length ≤ 63 ∧ K (.bl true) []
theorem law_fn {P : Program} {w : World} {K : PySem.W.Frag} {mg : Str → Option Value} {base : Heap} {CX : CXT} {k : Nat} {f : Addr} {fd : FuncData} {ps : List Str} (F : FnOk P w K mg base CX k f fd ps (spOf K mg sLaw)) : FnOk P w K mg base CX k f fd ps (spLaw K) := by
  refine F.imp fun vs H Q E h => ?_
  obtain ⟨a, ns, rfl, hS, hl, q⟩ := h
  refine ⟨H, [], [], [.rl (ns.map .int)], fun d _ => d = .bl true, fun _ _ => False, ⟨Ex.refl _, List.nodup_nil, fun _ h => (nomatch h), rfl, fun k a m h => by simp at h⟩, .cons (.rl hS (by simp) fun i x d h1 h2 => ?_) .nil, ⟨ns, rfl, rfl, hl, rfl⟩, fun d M' e v F' A' H' _ _ i => ?_, fun _ _ h => h.elim⟩
  · rw [List.getElem?_map] at h1 h2
    cases q : ns[i]? with
    | none => rw [q] at h1; cases h1
    | some z =>
      rw [q] at h1 h2
      cases h1; cases h2
      exact .int z
  · subst e
    rw [is_bl i]
    exact q H'
end L3

namespace L3
open PySem PySem.Spec PyProof.Rows L2 Evl
open Classical

/-! ### lists that may change, made otherwise than by a display -/
/-- a frozen new list as one that may change: it must be made on the way, so the operation's own rule is read anew -/
def rAddDC : DO2 := fun x y M K => match lsOwn M x, lsOwn M y with
  | some a, some b => a.length + b.length ≤ 16777216 ∧ K (.cel M.length) (M ++ [.ls (a ++ b)])
  | _, _ => False
def rListOfC : DC := fun ds M K => match ds with
  | [d] => (match sqOf M d with
    | some l => K (.cel M.length) (M ++ [.ls l])
    | none => False)
  | _ => False
def dSlC (te : DE) (tl th : DP) : DE := fun Γ M K R => te Γ M (fun d M1 => tl Γ M1 (fun l M2 => th Γ M2 (fun h M3 => match lsOf M3 d with
  | some a => K (.cel M3.length) (M3 ++ [.ls (cut a l h)])
  | none => False) R) R) R
section
variable {X : Cx} {e : Expr} {te : DE} {tl th : DP} {lo hi : Option Expr} {pos p2 : Pos}
theorem opd_addC : OpD X (binaryOp .Add) rAddDC := by
  intro O F A H σ Γ vs T M K v1 v2 d1 d2 s i1 i2 h
  have h : (match lsOwn M d1, lsOwn M d2 with | some a, some b => a.length + b.length ≤ 16777216 ∧ K (.cel M.length) (M ++ [.ls (a ++ b)]) | _, _ => False) := h
  cases e1 : lsOwn M d1 with
  | none => rw [e1] at h; exact h.elim
  | some a =>
    cases e2 : lsOwn M d2 with
    | none => rw [e1, e2] at h; exact h.elim
    | some b =>
      rw [e1, e2] at h
      obtain ⟨hz, k⟩ := h
      obtain ⟨p, xs, rfl, hp, q1⟩ := s.own i1 e1
      obtain ⟨r, ys, rfl, hr, q2⟩ := s.own i2 e2
      refine bO_of op_cat ⟨p, r, xs, ys, rfl, rfl, hp, hr, ?_, post_cel s (Paired.app q1 q2) k⟩
      rw [q1.len, q2.len, sizeLine_eq]
      exact hz
theorem cd_listC : CallD X (.type "list") rListOfC := by
  intro O F A H σ Γ vs T M K ws ds s p h
  cases p with
  | nil => exact h.elim
  | @cons v d vs' ds' i t =>
    cases t with
    | cons _ _ => exact h.elim
    | nil =>
      have h : (match sqOf M d with | some l => K (.cel M.length) (M ++ [.ls l]) | none => False) := h
      cases e : sqOf M d with
      | none => rw [e] at h; exact h.elim
      | some l =>
        rw [e] at h
        obtain ⟨a, xs, rfl, hq, q⟩ := s.seq i e
        exact ⟨_, call_list_of, a, xs, rfl, hq, post_cel s q h⟩
theorem se_sliceC (sa : SE X e te) (sl : SP3 X lo tl) (sh : SP3 X hi th) : SE X (.Subscript e (.Slice lo hi none p2) pos) (dSlC te tl th) := by
  intro W tk O F A H σ Γ vs T M K R s lf h
  refine bE_of (pe_slice bSl_ok bE_ok bP_ok bP_ok) ?_
  refine bE_mono (sa W tk O F A H σ Γ vs T M _ R s lf h) fun v H1 ⟨d, M1, F1, A1, s1, k1⟩ => ?_
  refine bP_mono (sl W tk O F1 A1 H1 σ Γ (v :: vs) (d :: T) M1 _ R s1 lf.pop k1) fun l H2 ⟨M2, F2, A2, s2, k2⟩ => ?_
  refine bP_mono (sh W tk O F2 A2 H2 σ Γ (v :: vs) (d :: T) M2 _ R s2 lf.pop k2) fun u H3 ⟨M3, F3, A3, s3, k3⟩ => ?_
  have i1 := s3.top
  have s := s3.pop
  have k3 : (match lsOf M3 d with | some a => K (.cel M3.length) (M3 ++ [.ls (L3.cut a l u)]) | none => False) := k3
  cases e : lsOf M3 d with
  | none => rw [e] at k3; exact k3.elim
  | some a =>
    rw [e] at k3
    obtain ⟨p, xs, rfl, hp, q⟩ := s.lst i1 e
    exact ⟨_, sl_list, p, xs, rfl, hp, post_cel s (q.cut l u) k3⟩
/-- what may change, frozen -/
def dFz (t : DE) : DE := fun Γ M K R => t Γ M (fun d M1 => match d with
  | .cel k => ∃ l, M1[k]? = some (.ls l) ∧ K (.ls l) (M1.set k .dead)
  | d => K d M1) R
theorem se_fz (sa : SE X e te) : SE X e (dFz te) := fun W tk O F A H σ Γ vs T M K R s lf h =>
  bE_mono (sa W tk O F A H σ Γ vs T M _ R s lf h) fun v H1 ⟨d, M1, F1, A1, s1, k⟩ => by
    cases d with
    | cel k' =>
      obtain ⟨l, hm, kk⟩ := k
      obtain ⟨a, F', ha, s', i'⟩ := StOk.frz s1.pop hm
      obtain ⟨b, rfl, hb⟩ := is_cel s1.top
      rw [ha] at hb
      cases hb
      exact ⟨.ls l, _, F', A1, s'.push i', kk⟩
    | _ => exact ⟨_, M1, F1, A1, s1, k⟩
/-! ### calls: the j-th argument is a changing object -/
def cBagA (j : Nat) (S : DSpec) (Γ : G) (ds : List D) (M : MM) (K : Kd) (R : Rx) : Prop := ∃ k, ds[j]? = some (.cel k) ∧ cBag k S Γ ds M K R
theorem ck_bagA {S : DSpec} (j : Nat) : CallK X S (cBagA j S) := ⟨fun s lf p ⟨_, _, h⟩ => sp_bag s lf p h⟩
/-! ### names of the module -/
theorem se_gstr {x s : Str} {l : List Nat} (h : ∃ t, X.mg x = some (.str s t)) (hg : Gl X x := by rfl) (e : s = SS l := by rfl) (ha : Asc l := by exact asc_by rfl) (hd : (x == ("__debug__" : Str)) = false := by decide) : SE X (.Name x pos) (dC (.str l)) := by
  obtain ⟨t, h⟩ := h
  exact se_glob (v := .str s) hg h ⟨t, rfl⟩ (fun _ _ => by rw [e]; exact .str l ha) hd
theorem se_gint {x : Str} {i : Int} (h : ∃ t, X.mg x = some (.int i t)) (hg : Gl X x := by rfl) (hd : (x == ("__debug__" : Str)) = false := by decide) : SE X (.Name x pos) (dC (.int i)) := by
  obtain ⟨t, h⟩ := h
  exact se_glob (v := .int i) hg h ⟨t, rfl⟩ (fun _ _ => .int i) hd
/-- t = e, several targets -/
def dUnp (tg : Tgt) (t : DE) : DS := fun E Γ M => t Γ M (fun d M1 => tg.d d Γ fun Γ' => E.nx Γ' M1) E.rz
theorem ss_unp {tgt : Expr} {g : Tgt} (sa : SE X e te) (hg : PG X tgt (g.h X.K)) (hs : swapsWithSole [tgt] e pos.line X.env = pure false := by rfl) (hw : swappedStores [tgt] e X.env = pure none := by rfl)
    (h1 : (assignEach [tgt] X.env).map (·.2) = [assign tgt X.env] := by rfl) : SS' X (.Assign [tgt] e pos) (dUnp g te) := fun W tk O F A H σ Γ vs T M E s lf h => by
  refine bS_of (ps_asg bE_ok hg hs hw h1) ?_
  refine bE_mono (sa W tk O F A H σ Γ vs T M _ _ s lf h) fun v H1 ⟨d, M1, F1, A1, s1, k⟩ => ?_
  obtain ⟨ys, Γ', hQ, s2, k2⟩ := g.go s1.pop s1.top k
  exact hQ _ ⟨Γ', M1, F1, A1, s2, k2⟩
end
/-! ### a def called with keywords -/
structure FDK (P : Program) (w : World) (K : PySem.W.Frag) (mg : Str → Option Value) (base : Heap) (x : Str) (k : Nat) (S : DSpec) (n : Nat) (ks : List Str) (gD : List D → List D → List D) : Prop where
  ex : ∃ f fd ps g gV, FnOk P w K mg base (L2.CX P w) k f fd ps (spOf K mg S) ∧ mg x = some (.ref f) ∧ PySem.W.keepIn K (.ref f) = true ∧ KBn K fd ps n ks g gV ∧
    ∀ {A F vs zs ds es}, IsL K mg A F vs ds → IsL K mg A F zs es → IsL K mg A F (gV vs zs) (gD ds es)
section
variable {X : Cx} {k n : Nat} {S : DSpec} {c : CK} {x : Str} {p pos : Pos} {e : Expr} {es : List Expr} {t u : DA} {ks : List Str} {kws : List Keyword} {gD : List D → List D → List D}
theorem se_fdK (h : FDK X.prog X.w X.K X.mg X.base x k S n ks gD) (ck : CallK X S c) (hr : Room k X.A) (sa : SA X (e :: es) t) (sk : SK X kws u) (hg : Gl X x := by rfl) (hall : (backToKw pos (keywordEach kws X.env)).all (·.1.isSome) = true := by rfl) (hks : (backToKw pos (keywordEach kws X.env)).filterMap (·.1) = ks := by rfl)
    (hdb : (x == ("__debug__" : Str)) = false := by decide) (he : starEach (e :: es) X.env = (false, eval e X.env) :: starEach es X.env := by rfl)
    (hpl : ((backTo pos (starEach (e :: es) X.env)).any (·.1) || (backToKw pos (keywordEach kws X.env)).any (·.1.isNone)) = false := by rfl) {m : Nat} (hm : ks.length = m := by rfl) : SE X (.Call (.Name x p) (e :: es) kws pos) (dFnK c gD n m t u) := by
  subst hm
  obtain ⟨f, fd, ps, g, gV, F, m, kp, b, i⟩ := h.ex
  exact se_fnK F ck hr m kp b i sa sk hg hall hks hdb he hpl
end
/-! ### a def that makes a list is one that hands back plain data -/
def sPure (S : DSpec) : DSpec := fun ds M K R => M = [] ∧ S ds [] (fun d M' => ∃ l, d = .cel 0 ∧ M' = [.ls l] ∧ (∀ d ∈ l, Gr d) ∧ K (.ls l) []) (fun x M' => M' = [] ∧ R x [])
theorem fd_pure {P : Program} {w : World} {K : PySem.W.Frag} {mg : Str → Option Value} {base : Heap} {x : Str} {k : Nat} {S : DSpec} {dv : List D} (h : FD P w K mg base x k S dv) : FD P w K mg base x k (sPure S) dv := by
  obtain ⟨f, fd, ps, dV, dvs, F, m, kp, b, v, i⟩ := h.ex
  refine ⟨f, fd, ps, dV, dvs, F.imp fun vs H Q E hh => ?_, m, kp, b, v, i⟩
  obtain ⟨F0, A0, M0, ds, K0, R0, mem, p, ⟨rfl, hS⟩, hq, he⟩ := hh
  obtain rfl := len0 mem
  refine ⟨F0, [], [], ds, _, _, mem, p, hS, ?_, ?_⟩
  · rintro d M' ⟨l, rfl, rfl, g, kk⟩ v F' A' H' wt m' is
    obtain ⟨q, rfl⟩ := len1 m'
    obtain ⟨a, rfl, e⟩ := is_cel is
    have e : q = a := by simpa using e
    subst e
    obtain ⟨hF, xs, hH, pp⟩ := m'.cells 0 q _ rfl rfl
    have hq0 : H q = none := wt.frs q (by simp) (by simp)
    refine hq (.ls l) [] kk (.ref q) (upd F' q (.lst xs)) [] H' ⟨wt.exF.trans (Ex.new hF), List.prefix_refl _, fun a o _ e => wt.keep a o (by simp) e, fun a h => (nomatch h), fun a o e => ?_⟩ ⟨fun a o e => ?_, List.nodup_nil, fun a h => (nomatch h), rfl, fun k a m h => by simp at h⟩ (Is.lsL upd_same ?_)
    · by_cases z : a = q
      · exact .inr (.inl (by rw [z]; exact hq0))
      · rw [upd_ne z] at e
        rcases wt.nw a o e with h | h | h
        · exact .inl h
        · exact .inr (.inl h)
        · exact .inr (.inr h)
    · by_cases z : a = q
      · subst z
        rw [upd_same] at e
        rw [hH, e]
      · rw [upd_ne z] at e
        exact m'.ex a o e
    · exact (pp.gr g).mono (Ex.new hF) (List.prefix_refl _)
  · rintro x M' ⟨rfl, kk⟩ cls dd F' A' H' wt m' xi
    obtain rfl := len0 m'
    exact he x [] kk cls dd F' [] H' wt m' xi
end L3

namespace L3
open PySem PySem.Spec PyProof.Rows L2 Evl
open Classical

/-! ### plain laws of what the readings name -/
theorem cut_from {α : Type} (l : List α) (k : Nat) : cut l (some (k : Int)) none = l.drop k := by
  unfold cut
  rw [HT.sIx_none, HT.sIx_nat]
  by_cases h : k ≤ l.length
  · rw [Nat.min_eq_left h]
    exact List.take_of_length_le (by simp)
  · rw [Nat.min_eq_right (by omega), List.drop_length, List.drop_of_length_le (by omega)]
    simp
theorem cut_to {α : Type} (l : List α) (k : Nat) : cut l none (some (k : Int)) = l.take k := by
  unfold cut
  rw [HT.sIx_none, HT.sIx_nat, List.drop_zero, Nat.sub_zero]
  by_cases h : k ≤ l.length
  · rw [Nat.min_eq_left h]
  · rw [Nat.min_eq_right (by omega), List.take_of_length_le (Nat.le_refl _), List.take_of_length_le (by omega)]
theorem cut_between {α : Type} (l : List α) (i k : Nat) : cut l (some (i : Int)) (some (k : Int)) = (l.drop i).take (k - i) := by
  unfold cut
  rw [HT.sIx_nat, HT.sIx_nat]
  by_cases h : i ≤ l.length
  · rw [Nat.min_eq_left h]
    by_cases h2 : k ≤ l.length
    · rw [Nat.min_eq_left h2]
    · rw [Nat.min_eq_right (by omega), List.take_of_length_le (by simp), List.take_of_length_le (by simp; omega)]
  · rw [Nat.min_eq_right (a := i) (by omega), List.drop_length, List.drop_of_length_le (by omega)]
    simp
theorem cut_from1 {α : Type} (l : List α) : cut l (some 1) none = l.drop 1 := cut_from l 1
theorem cut_init {α : Type} (l : List α) : cut l none (some (-1)) = l.dropLast := by
  unfold cut
  rw [HT.sIx_none, List.drop_zero, Nat.sub_zero, List.dropLast_eq_take]
  congr 1
  show (if (-1 : Int) < 0 then (-1 + (l.length : Int)).toNat else min (-1 : Int).toNat l.length) = _
  rw [if_pos (by decide)]
  omega
theorem atI_nat {α : Type} (l : List α) (k : Nat) : atI l (k : Int) = l[k]? := by
  unfold atI ixN
  rw [if_pos (by omega)]
  by_cases h : (k : Int) < l.length
  · rw [if_pos h]
    show l[(k : Int).toNat]? = _
    rw [Int.toNat_natCast]
  · rw [if_neg h]
    exact (List.getElem?_eq_none (by omega)).symm
theorem atI_0 {α : Type} (l : List α) : atI l 0 = l[0]? := atI_nat l 0
theorem atI_1 {α : Type} (l : List α) : atI l 1 = l[1]? := atI_nat l 1
theorem atI_2 {α : Type} (l : List α) : atI l 2 = l[2]? := atI_nat l 2
theorem atI_last {α : Type} (l : List α) : atI l (-1) = l.getLast? := by
  unfold atI ixN
  rw [if_neg (by decide)]
  cases l with
  | nil => rfl
  | cons a r =>
    rw [if_pos (by simp; omega)]
    show (a :: r)[(-1 + ((a :: r).length : Int)).toNat]? = _
    rw [List.getLast?_eq_getElem?]
    congr 1
    simp
    omega
theorem nrm9_str (l : List Nat) : nrm 9 (.str l) = .str l := rfl
theorem nrm9_int (l : Int) : nrm 9 (.int l) = .int l := rfl
theorem nrm9_bl (b : Bool) : nrm 9 (.bl b) = .int (if b then 1 else 0) := rfl
theorem nrm9_non : nrm 9 .non = .non := rfl
theorem nrm_strs (n : Nat) (l : List (List Nat)) : (l.map D.str).map (nrm n) = l.map .str := by
  rw [List.map_map]
  exact List.map_congr_left fun s _ => nrm_str n s
theorem nrm_ints (n : Nat) (l : List Int) : (l.map D.int).map (nrm n) = l.map .int := by
  rw [List.map_map]
  exact List.map_congr_left fun s _ => nrm_int n s
theorem pl_strs (n : Nat) (l : List (List Nat)) : ∀ d ∈ l.map D.str, Pl n d := by
  intro d hd
  obtain ⟨s, _, rfl⟩ := List.mem_map.mp hd
  rw [pl_str]
  trivial
theorem map_str_inj {a b : List (List Nat)} : a.map D.str = b.map D.str ↔ a = b := by
  constructor
  · intro h
    exact (List.map_inj_right (f := D.str) (fun _ _ e => by cases e; rfl)).mp h
  · intro h; rw [h]
/-- equality of two texts, two lists of texts, two numbers -/
theorem eq_str (M : MM) (a b : List Nat) : eqD M (.str a) (.str b) ↔ a = b := by
  show nrm 9 (.str a) = nrm 9 (.str b) ↔ _
  rw [nrm9_str, nrm9_str, D.str.injEq]
theorem eq_int (M : MM) (a b : Int) : eqD M (.int a) (.int b) ↔ a = b := by
  show nrm 9 (.int a) = nrm 9 (.int b) ↔ _
  rw [nrm9_int, nrm9_int, D.int.injEq]
theorem eq_bl (M : MM) (a b : Bool) : eqD M (.bl a) (.bl b) ↔ a = b := by
  show nrm 9 (.bl a) = nrm 9 (.bl b) ↔ _
  rw [nrm9_bl, nrm9_bl, D.int.injEq]
  cases a <;> cases b <;> simp
theorem eq_strs (M : MM) (a b : List (List Nat)) : eqD M (.ls (a.map .str)) (.ls (b.map .str)) ↔ a = b := by
  show D.ls ((a.map D.str).map (nrm 8)) = D.ls ((b.map D.str).map (nrm 8)) ↔ _
  rw [nrm_strs, nrm_strs, D.ls.injEq, map_str_inj]
theorem eq_nstr (M : MM) (b : List Nat) : eqD M .non (.str b) ↔ False := by
  show nrm 9 .non = nrm 9 (.str b) ↔ _
  rw [nrm9_str, nrm9_non]
  constructor
  · intro h; cases h
  · exact False.elim
theorem eq_strn (M : MM) (b : List Nat) : eqD M (.str b) .non ↔ False := by
  show nrm 9 (.str b) = nrm 9 .non ↔ _
  rw [nrm9_str, nrm9_non]
  constructor
  · intro h; cases h
  · exact False.elim
/-- a test of two plain texts -/
theorem eqS_iff {neg : Bool} {M : MM} {K : Kd} {a b : List Nat} : rEqD' neg (.str a) (.str b) M K ↔ K (.bl (if neg then !decide (a = b) else decide (a = b))) M := by
  unfold rEqD'
  rw [show decide (eqD M (.str a) (.str b)) = decide (a = b) from decide_eq_decide.mpr (eq_str M a b)]
  exact ⟨fun h => h.2.2, fun h => ⟨trivial, trivial, h⟩⟩
theorem eqI_iff {neg : Bool} {M : MM} {K : Kd} {a b : Int} : rEqD' neg (.int a) (.int b) M K ↔ K (.bl (if neg then !decide (a = b) else decide (a = b))) M := by
  unfold rEqD'
  rw [show decide (eqD M (.int a) (.int b)) = decide (a = b) from decide_eq_decide.mpr (eq_int M a b)]
  exact ⟨fun h => h.2.2, fun h => ⟨trivial, trivial, h⟩⟩
theorem eqB_iff {neg : Bool} {M : MM} {K : Kd} {a b : Bool} : rEqD' neg (.bl a) (.bl b) M K ↔ K (.bl (if neg then !decide (a = b) else decide (a = b))) M := by
  unfold rEqD'
  rw [show decide (eqD M (.bl a) (.bl b)) = decide (a = b) from decide_eq_decide.mpr (eq_bl M a b)]
  exact ⟨fun h => h.2.2, fun h => ⟨trivial, trivial, h⟩⟩
theorem eqL_iff {neg : Bool} {M : MM} {K : Kd} {a b : List (List Nat)} : rEqD' neg (.ls (a.map .str)) (.ls (b.map .str)) M K ↔ K (.bl (if neg then !decide (a = b) else decide (a = b))) M := by
  unfold rEqD'
  rw [show decide (eqD M (.ls (a.map .str)) (.ls (b.map .str))) = decide (a = b) from decide_eq_decide.mpr (eq_strs M a b)]
  exact ⟨fun h => h.2.2, fun h => ⟨pl_strs 8 a, pl_strs 8 b, h⟩⟩
theorem view_cel {M : MM} {k : Nat} {l : List D} (h : M[k]? = some (.ls l)) : view M (.cel k) = .ls l := by
  show (match M[k]? with | some (.ls l) => .ls l | _ => .cel k) = D.ls l
  rw [h]
theorem eqC_iff {neg : Bool} {M : MM} {K : Kd} {k : Nat} {a b : List (List Nat)} (hk : M[k]? = some (.ls (a.map .str))) : rEqD' neg (.cel k) (.ls (b.map .str)) M K ↔ K (.bl (if neg then !decide (a = b) else decide (a = b))) M := by
  have e : rEqD' neg (.cel k) (.ls (b.map .str)) M K ↔ rEqD' neg (.ls (a.map .str)) (.ls (b.map .str)) M K := by
    unfold rEqD' eqD
    rw [view_cel hk]
    rfl
  rw [e, eqL_iff]
theorem lsOwn_cel {M : MM} {k : Nat} {l : List D} (h : M[k]? = some (.ls l)) : lsOwn M (.cel k) = some l := by
  show (match M[k]? with | some (.ls l) => some l | _ => none) = some l
  rw [h]
theorem lsOf_cel {M : MM} {k : Nat} {l : List D} (h : M[k]? = some (.ls l)) : lsOf M (.cel k) = some l := lsOwn_cel h
theorem get_snoc {M : MM} {m : MO} : (M ++ [m])[M.length]? = some m := by
  rw [List.getElem?_append_right (Nat.le_refl _), Nat.sub_self]
  rfl
theorem get_snocL {M : MM} {m m' : MO} {k : Nat} (h : M[k]? = some m) : (M ++ [m'])[k]? = some m := by
  rw [List.getElem?_append_left (List.getElem?_eq_some_iff.mp h).1]
  exact h
theorem set_snoc {M : MM} {m m' : MO} : (M ++ [m]).set M.length m' = M ++ [m'] := by
  rw [List.set_append_right _ _ (Nat.le_refl _), Nat.sub_self]
  rfl
theorem get_set {M : MM} {m m' : MO} {k : Nat} (h : M[k]? = some m) : (M.set k m')[k]? = some m' :=
  List.getElem?_set_self (List.getElem?_eq_some_iff.mp h).1
theorem get_setN {M : MM} {m m' : MO} {k j : Nat} (h : M[k]? = some m) (hn : j ≠ k) : (M.set j m')[k]? = some m := by
  rw [List.getElem?_set_ne hn]
  exact h
/-- the body of a for, item by item -/
theorem for_ind {chk : MM → Prop} {tg : Tgt} {body : DS} {E : DEnds} {P : List D → G → MM → Prop} (h0 : ∀ Γ M, P [] Γ M → chk M ∧ E.nx Γ M)
    (h1 : ∀ d r Γ M (N : G → MM → Prop), (∀ Γ' M', P r Γ' M' → N Γ' M') → P (d :: r) Γ M → chk M ∧ tg.d d Γ fun Γ' => body { E with nx := N, ct := N, bk := E.nx } Γ' M) : ∀ (l : List D) (Γ : G) (M : MM), P l Γ M → forD chk tg body E l Γ M
  | [], Γ, M, p => h0 Γ M p
  | d :: r, Γ, M, p => h1 d r Γ M _ (fun Γ' M' q => for_ind h0 h1 r Γ' M' q) p
/-- .. of a comprehension -/
theorem comp_ind {chk : MM → Prop} {tg : Tgt} {tt : DT} {te : DE} {Γw : G} {K : Kd} {P : List D → List D → MM → Prop} (h0 : ∀ acc M, P [] acc M → chk M ∧ K (.ls acc) M)
    (h1 : ∀ d r acc M (N : List D → MM → Prop), (∀ acc' M', P r acc' M' → N acc' M') → P (d :: r) acc M → chk M ∧ tg.d d Γw fun Γ' => tt Γ' M (fun b M1 => if b = true then te Γ' M1 (fun y M2 => acc.length < 16777216 ∧ N (acc ++ [y]) M2) (fun _ _ _ => False) else N acc M1) (fun _ _ _ => False)) : ∀ (l acc : List D) (M : MM), P l acc M → compD chk tg tt te Γw K l acc M
  | [], acc, M, p => h0 acc M p
  | d :: r, acc, M, p => h1 d r acc M _ (fun acc' M' q => comp_ind h0 h1 r acc' M' q) p
end L3
namespace L3
open PySem PySem.Spec PyProof.Rows L2 Evl
open Classical
theorem lsOwn_ls {M : MM} {l : List D} : lsOwn M (.ls l) = some l := rfl
theorem lsOf_ls {M : MM} {l : List D} : lsOf M (.ls l) = some l := rfl
theorem lsOf_rl {M : MM} {l : List D} : lsOf M (.rl l) = some l := rfl
theorem sqOf_ls {M : MM} {l : List D} : sqOf M (.ls l) = some l := rfl
theorem sqOf_rl {M : MM} {l : List D} : sqOf M (.rl l) = some l := rfl
theorem sqOf_tp {M : MM} {l : List D} : sqOf M (.tp l) = some l := rfl
theorem sqOf_cel {M : MM} {k : Nat} {l : List D} (h : M[k]? = some (.ls l)) : sqOf M (.cel k) = some l := by
  unfold sqOf
  rw [lsOf_cel h]
  rfl
theorem tpOf_tp {l : List D} : tpOf (.tp l) = some l := rfl
theorem truD_ls {M : MM} {l : List D} : truD M (.ls l) = some (!l.isEmpty) := rfl
theorem truD_rl {M : MM} {l : List D} : truD M (.rl l) = some (!l.isEmpty) := rfl
theorem truD_tp {M : MM} {l : List D} : truD M (.tp l) = some (!l.isEmpty) := rfl
theorem truD_bl {M : MM} {b : Bool} : truD M (.bl b) = some b := rfl
theorem truD_int {M : MM} {b : Int} : truD M (.int b) = some (b != 0) := rfl
theorem truD_non {M : MM} : truD M .non = some false := rfl
theorem truD_str {M : MM} {l : List Nat} (h : l.length ≤ 16777216) : truD M (.str l) = some (!l.isEmpty) := if_pos h
theorem truD_cel {M : MM} {k : Nat} {l : List D} (h : M[k]? = some (.ls l)) : truD M (.cel k) = some (!l.isEmpty) := by
  show (lsOf M (.cel k)).map _ = _
  rw [lsOf_cel h]
  rfl
theorem addC_iff {M : MM} {K : Kd} {x y : D} {a b : List D} (h1 : lsOwn M x = some a) (h2 : lsOwn M y = some b) (k : a.length + b.length ≤ 16777216 ∧ K (.cel M.length) (M ++ [.ls (a ++ b)])) : rAddDC x y M K := by
  unfold rAddDC
  rw [h1, h2]
  exact k
theorem inL_strs {neg : Bool} {M : MM} {K : Kd} {x : D} {y : List Nat} {l : List (List Nat)} (hx : sqOf M x = some (l.map .str)) (h : K (.bl (if neg then !decide (y ∈ l) else decide (y ∈ l))) M) (hn : ∀ t, x ≠ .str t) : rInD neg (.str y) x M K := by
  have e : rInD neg (.str y) x M K = (match sqOf M x with
    | some l => flatD (.str y) ∧ (∀ d ∈ l, flatD d) ∧ K (.bl (if neg then !decide (nrm 0 (.str y) ∈ l.map (nrm 0)) else decide (nrm 0 (.str y) ∈ l.map (nrm 0)))) M
    | none => False) := by
    cases x <;> first | rfl | exact absurd rfl (hn _)
  rw [e, hx]
  refine ⟨trivial, fun d hd => ?_, ?_⟩
  · obtain ⟨s, _, rfl⟩ := List.mem_map.mp hd
    trivial
  · have e2 : decide (nrm 0 (.str y) ∈ (l.map D.str).map (nrm 0)) = decide (y ∈ l) := decide_eq_decide.mpr (by
      rw [nrm_strs, nrm_str, List.mem_map]
      exact ⟨fun ⟨a, h1, h2⟩ => by cases h2; exact h1, fun h => ⟨y, h, rfl⟩⟩)
    rw [e2]
    exact h
end L3
namespace L3
theorem okM0 {M : MM} : OkM 0 M := fun m h => by simp at h
theorem gr_ls_strs (l : List (List Nat)) : Gr (.ls (l.map .str)) := gr_ls.mpr (gr_strs l)
end L3
namespace L3
theorem okM0_iff {M : MM} : OkM 0 M ↔ True := iff_true_intro okM0
theorem gr_str_iff {s : List Nat} : Gr (.str s) ↔ True := Iff.rfl
theorem gr_int_iff {s : Int} : Gr (.int s) ↔ True := Iff.rfl
theorem gr_bl_iff {s : Bool} : Gr (.bl s) ↔ True := Iff.rfl
theorem gr_non_iff : Gr .non ↔ True := Iff.rfl
theorem gr_lss_iff {l : List (List Nat)} : Gr (.ls (l.map .str)) ↔ True := iff_true_intro (gr_ls_strs l)
theorem gr_ls0_iff : Gr (.ls []) ↔ True := iff_true_intro (gr_ls.mpr fun _ h => nomatch h)
end L3
namespace L3
theorem sqOf_1 {l : List D} : sqOf [.ls l] (.cel 0) = some l := rfl
theorem lsOf_1 {l : List D} : lsOf [.ls l] (.cel 0) = some l := rfl
theorem lsOwn_1 {l : List D} : lsOwn [.ls l] (.cel 0) = some l := rfl
theorem ixN_30 : L2.ixN 3 0 = some 0 := rfl
theorem ixN_31 : L2.ixN 3 1 = some 1 := rfl
theorem ixN_32 : L2.ixN 3 2 = some 2 := rfl
theorem ind01 (p : Prop) [Decidable p] : (if p then (1 : Int) else 0) = 0 ∨ (if p then (1 : Int) else 0) = 1 := by
  split
  · exact .inr rfl
  · exact .inl rfl
theorem abs0 (c : Int) : 0 ≤ (if c < 0 then -c else c) := by split <;> omega
end L3
namespace L3
theorem setIx_iff {a : List D} {z : Int} {P : List D → Nat → Prop} : (∃ (l : List D) (j : Nat), some (MO.ls a) = some (MO.ls l) ∧ L2.ixN l.length z = some j ∧ P l j) ↔ ∃ j, L2.ixN a.length z = some j ∧ P a j :=
  ⟨fun ⟨l, j, e, h⟩ => by cases e; exact ⟨j, h⟩, fun ⟨j, h⟩ => ⟨a, j, rfl, h⟩⟩
theorem setIx_iff' {a : List D} {z : Int} {P : List D → Nat → Prop} : (∃ (l : List D) (j : Nat), MO.ls a = MO.ls l ∧ L2.ixN l.length z = some j ∧ P l j) ↔ ∃ j, L2.ixN a.length z = some j ∧ P a j :=
  ⟨fun ⟨l, j, e, h⟩ => by cases e; exact ⟨j, h⟩, fun ⟨j, h⟩ => ⟨a, j, rfl, h⟩⟩
end L3
namespace L3
theorem seq_g {t u : DS} {E : DEnds} {Γ : G} {M : MM} (h : ∀ N, N = u E → t { E with nx := N } Γ M) : dSeq t u E Γ M := h _ rfl
theorem ixR_iff {K : Kd} {M : MM} {l : List D} {d : D} {i : Int} (hl : L2.atI l i = some d) (x : D) (hx : sqOf M x = some l) (hn : ∀ s, x ≠ .str s) (h : K d M) : rIxD x (.int i) M K := by
  have e : rIxD x (.int i) M K = (match sqOf M x with | some l => ∃ d, L2.atI l i = some d ∧ K d M | none => False) := by
    cases x <;> first | rfl | exact absurd rfl (hn _)
  rw [e, hx]
  exact ⟨d, hl, h⟩
end L3
namespace L3
abbrev Tx := List Nat
end L3

namespace L3
open PySem PySem.Spec PyProof.Rows L2 Evl
open Classical
/-! ### a def by its datum -/
abbrev FnP (K : PySem.W.Frag) (x qual : Str) (st : Stmt) (dvs : List V) (kws : List (Str × V)) (f : Addr) (fd : FuncData) : Prop := FunD K x qual (defArgs st) (defBody st) (defScope st) dvs kws f fd
section
variable {P : Program} {w : World} {K : PySem.W.Frag} {mg : Str → Option Value} {base : Heap}
theorem fn_anyD {x qual : Str} {st : Stmt} {dvs : List V} {kws : List (Str × V)} {f : Addr} {fd : FuncData} {N ps : List Str} {k : Nat} {S : DSpec} {rd : DS} {en : Nat → Kd → Kx → DEnds} (F : FnP K x qual st dvs kws f fd) (Sc : FnScope N ps (defScope st)) (eo : EndOk en) (len : ∀ ds M K0 R0, S ds M K0 R0 → ds.length = ps.length)
    (body : BodyD P w K mg base N qual st f k rd) (sem : ∀ ds M K0 R0, S ds M K0 R0 → rd (en M.length K0 R0) (startG N.length ds) M) : FnOk P w K mg base (L2.CX P w) (k + 1) f fd ps (spOf K mg S) := by
  refine F.ok Sc (fun vs H Q E h => ?_) (fun cdv A outer s H vs Q E hr hsp => ⟨_, bB_ok, ?_⟩)
  · obtain ⟨F0, A0, M, ds, K0, R0, m, p, hS, _⟩ := h
    rw [p.len]
    exact len ds M K0 R0 hS
  · obtain ⟨F0, A0, M, ds, K0, R0, m, p, hS, hq, he⟩ := hsp
    have hb := body cdv A outer s H E hr
    have st0 : StOk (cxD P w K mg base N qual (defScope st) f cdv A outer s H E) ⟨F0, H, A0⟩ F0 A0 H (L2.start N vs) (startG N.length ds) [] [] M := start_ok m p
    have tk : Takes (cxD P w K mg base N qual (defScope st) f cdv A outer s H E) (fun cls d _ H => E cls d H) := takes_of rfl rfl rfl rfl
    refine bB_mono (hb _ tk ⟨F0, H, A0⟩ F0 A0 H _ _ [] [] M (en M.length K0 R0) st0 ?_ (sem ds M K0 R0 hS)) ?_ ?_ ?_ ?_
    · intro x' σ' Γ' M' F' A' H' cls d s' xi h
      obtain ⟨A2, M2, w2, m2, i2, k2⟩ := eo.rz (K0 := K0) m.len.symm s' xi h
      exact he x' M2 k2 cls d F' A2 H' w2 m2 i2
    · rintro σ' H' ⟨Γ', M', F', A', s', h⟩
      obtain ⟨A2, M2, w2, m2, k2⟩ := eo.nx (R0 := R0) m.len.symm s' h
      exact hq .non M2 k2 .non F' A2 H' w2 m2 .non
    · rintro v H' ⟨d, M', F', A', σ', Γ', s', h⟩
      obtain ⟨A2, M2, d2, w2, m2, i2, k2⟩ := eo.rt (R0 := R0) m.len.symm s'.pop s'.top h
      exact hq d2 M2 k2 v F' A2 H' w2 m2 i2
    · rintro σ' H' ⟨Γ', M', F', A', s', h⟩
      exact eo.bk h
    · rintro σ' H' ⟨Γ', M', F', A', s', h⟩
      exact eo.ct h
/-- no defaults: every parameter is written -/
theorem fd_plain {x : Str} {k : Nat} {S : DSpec} {f : Addr} {fd : FuncData} {ps : List Str} (F : FnOk P w K mg base (L2.CX P w) k f fd ps (spOf K mg S)) (m : mg x = some (.ref f)) (kp : PySem.W.keepIn K (.ref f) = true) (b : Binds K fd ps []) : FD P w K mg base x k S [] :=
  ⟨f, fd, ps, [], [], F, m, kp, b, .nil, fun _ _ => .nil⟩
/-- .. some fill up -/
theorem fd_dfl {x : Str} {k : Nat} {S : DSpec} {f : Addr} {fd : FuncData} {ps : List Str} {dvs : List V} {dv : List D} (F : FnOk P w K mg base (L2.CX P w) k f fd ps (spOf K mg S)) (m : mg x = some (.ref f)) (kp : PySem.W.keepIn K (.ref f) = true) (b : ∃ ds, Vals dvs ds ∧ Binds K fd ps ds)
    (i : ∀ A F, IsL K mg A F dvs dv) : FD P w K mg base x k S dv := by
  obtain ⟨ds, v, b⟩ := b
  exact ⟨f, fd, ps, ds, dvs, F, m, kp, b, v, i⟩
theorem fd_kw {x : Str} {k n : Nat} {S : DSpec} {f : Addr} {fd : FuncData} {ps ks : List Str} {g : List Value → List Value → List Value} {gV : List V → List V → List V} {gD : List D → List D → List D} (F : FnOk P w K mg base (L2.CX P w) k f fd ps (spOf K mg S)) (m : mg x = some (.ref f)) (kp : PySem.W.keepIn K (.ref f) = true)
    (b : KBn K fd ps n ks g gV) (i : ∀ {A F vs zs ds es}, IsL K mg A F vs ds → IsL K mg A F zs es → IsL K mg A F (gV vs zs) (gD ds es)) : FDK P w K mg base x k S n ks gD :=
  ⟨f, fd, ps, g, gV, F, m, kp, b, i⟩
end
/-- a law's end -/
theorem walk_ofEw {l : PySem.W.OpenLaw} {n k : Nat} {q : Program} {loose : List Str} {XP : (Str → Option Value) → Heap → Prop} {YP : World → Heap → Prop} {d : DefRec} {CX : World → CXT} {x : Str}
    (hn : l.most = some n) (hn2 : n ≤ sizeLine) (hdf : d.params.defaults = []) (hr : Room k callerA)
    (F : ∀ (w : World) (mg : Str → Option Value) (fa : Addr) (h : Heap), YP w h → h.Ns mainGlobals mg → mg d.name = some (.ref fa) →
      ∃ (K : PySem.W.Frag) (fd : FuncData) (sp : Sp), K.In h ∧ (∀ (s : Shared) (u : Value), BindsTo s fd ⟨[u], []⟩ [(x, u)]) ∧
        (∀ (H : Hp) (a : Addr) (ns : List Int), ns.length ≤ n → Only H → SqL K H a (ns.map V.int) → sp [.ref a] H (fun v _ => v = .bl true) fun _ _ _ => False) ∧
        ∀ base : Heap, K.In base → base.Ns mainGlobals mg → FnOk l.prog w K mg base (CX w) k fa fd [x] sp)
    (hCX : ∀ (w : World) (H : Hp) (s : Shared) (e : Value) (s' : Shared), CX w [] H s (fun _ _ _ => False) e s' → False) :
    PySem.W.WalkO q loose XP YP l.row.toRowW d [] (fun f vs => PySem.call f vs) := by
  refine Att.attach_call hn hdf fun w s₀ s₁ mg mb fa o pm cd doc a vs ns G Y ho hd hcd hmg hobj hints hlen hg => ?_
  obtain ⟨K, fd, sp, KX, hb, hsp, hF⟩ := F w mg fa _ Y G.T.g hmg
  exact law_call KX G.T.g G.T.b G.T.builtins G.T.nolimit hg hobj hints (Nat.le_trans hlen hn2) hr hF hb (fun H hO hS => hsp H a ns hlen hO hS) fun H e s' => hCX w H s₁ e s'
end L3
namespace L3
open PySem PySem.Spec PyProof.Rows L2 Evl
open Classical
/-! ### a comparison as a test -/
def IsB (r : DO2) : Prop := ∀ d1 d2 M K, r d1 d2 M K → r d1 d2 M (fun d M' => (∃ b, d = .bl b) ∧ K d M')
theorem isb_eq {neg : Bool} : IsB (rEqD' neg) := fun d1 d2 M K h => ⟨h.1, h.2.1, ⟨_, rfl⟩, h.2.2⟩
theorem isb_is {neg : Bool} : IsB (rIsN' neg) := fun d1 d2 M K h => ⟨h.1, ⟨_, rfl⟩, h.2⟩
theorem isb_ord {fi : Int → Int → Bool} {fs : List Nat → List Nat → Bool} : IsB (rOrdD fi fs) := fun d1 d2 M K h => by
  cases d1 with
  | int i => cases d2 with
    | int j => exact ⟨⟨_, rfl⟩, h⟩
    | _ => exact h.elim
  | str i => cases d2 with
    | str j => exact ⟨⟨_, rfl⟩, h⟩
    | _ => exact h.elim
  | _ => exact h.elim
theorem isb_in {neg : Bool} : IsB (rInD neg) := fun d1 d2 M K h => by
  have rest : (match sqOf M d2 with
    | some l => flatD d1 ∧ (∀ d ∈ l, flatD d) ∧ K (.bl (if neg then !decide (nrm 0 d1 ∈ l.map (nrm 0)) else decide (nrm 0 d1 ∈ l.map (nrm 0)))) M
    | none => False) → (match sqOf M d2 with
    | some l => flatD d1 ∧ (∀ d ∈ l, flatD d) ∧ ((∃ b, (D.bl (if neg then !decide (nrm 0 d1 ∈ l.map (nrm 0)) else decide (nrm 0 d1 ∈ l.map (nrm 0)))) = .bl b) ∧ K (.bl (if neg then !decide (nrm 0 d1 ∈ l.map (nrm 0)) else decide (nrm 0 d1 ∈ l.map (nrm 0)))) M)
    | none => False) := fun h => by
    cases q : sqOf M d2 with
    | none => rw [q] at h; exact h
    | some l =>
      rw [q] at h
      exact ⟨h.1, h.2.1, ⟨_, rfl⟩, h.2.2⟩
  cases d1 with
  | str i => cases d2 with
    | str j => exact ⟨⟨_, rfl⟩, h⟩
    | _ => exact rest h
  | _ => exact rest h
section
variable {X : Cx} {a b : Expr} {ta tb : DE} {pos : Pos}
theorem st_cmp {op : CmpOp} {r : DO2} (hi : IsB r) (ho : OpD X (compareOp op) r) (sa : SE X a ta) (sb : SE X b tb) (hm : behindInMarks op b = false := by first | exact nomark _ | rfl) : ST X (.Compare a [op] [b] pos) (qTru (dOp r ta tb)) := fun W tk O F A H σ Γ vs T M K R s lf h => by
  refine bT_of (pt_cmpR bO_ok bE_ok bE_ok hm) ?_
  exact two sa sb tk s lf h fun v1 v2 d1 d2 M2 F2 A2 H2 s2 i1 i2 k => bO_mono (ho O F2 A2 H2 σ Γ vs T M2 _ v1 v2 d1 d2 s2 i1 i2 (hi _ _ _ _ k)) fun v H' ⟨d, M', F', A', s', ⟨b, e⟩, c, hc, kk⟩ => by
    subst e
    have e2 : c = b := (Option.some.inj hc).symm
    subst e2
    exact ⟨c, is_bl s'.top, M', F', A', s'.pop, kk⟩
end
open PySem PySem.Spec PyProof.Rows L2 Evl
theorem cx_no {P : Program} {w : World} {outer : List Env} {H : Hp} {s : Shared} {u : Value} {s' : Shared} (h : L2.CX P w outer H s (fun _ _ _ => False) u s') : False := by
  obtain ⟨a, B, H', cls, d, _, _, _, _, _, _, _, h⟩ := h
  exact h
end L3

namespace L3
open PySem PySem.Spec PyProof.Rows L2 Evl
open Classical

/-! ### small letters, capitals -/
theorem map_sing {α β : Type} (f : α → β) (l : List α) : ((l.map fun c => [f c]).flatten) = l.map f := by
  induction l with
  | nil => rfl
  | cons a r ih => simp [ih]
theorem placed_SS (l : List Nat) (f : Nat → Nat → List Nat) (g : Nat → Nat) (h : ∀ i c, l[i]? = some c → f i c = [g c]) : (PySem.placed (SS l) f).toList = l.map g := by
  unfold PySem.placed
  rw [Array.toList_flatten, Array.toList_mapIdx, ← map_sing g l]
  congr 1
  apply List.ext_getElem?
  intro i
  rw [List.getElem?_map, List.getElem?_mapIdx, List.getElem?_map]
  show Option.map _ (Option.map _ l[i]?) = _
  cases e : l[i]? with
  | none => rfl
  | some c =>
    exact congrArg some (h i c e)
theorem lower_SS {l : List Nat} (h : Asc l) : Txt.lower (SS l) = SS (l.map lowC) := by
  refine TL.ext_tl ?_
  show (PySem.placed (SS l) _).toList = l.map lowC
  refine placed_SS l _ lowC fun i c e => ?_
  have hc := h c (List.mem_of_getElem? e)
  show (match (SS l).cps[i]? with | none => [] | some c => if c == 0x3A3 && PySem.Unicode.endsWord (SS l).cps i then [0x3C2] else Unicode.lowerOf c) = _
  have e2 : (SS l).cps[i]? = some c := by
    show l.toArray[i]? = some c
    simpa using e
  rw [e2]
  show (if (c == 0x3A3 && PySem.Unicode.endsWord (SS l).cps i) = true then [0x3C2] else Unicode.lowerOf c) = _
  rw [show (c == 0x3A3) = false from beq_false_of_ne (by omega)]
  exact low_tab c hc
theorem upper_SS {l : List Nat} (h : Asc l) : Txt.upper (SS l) = SS (l.map uppC) := by
  refine TL.ext_tl ?_
  show (PySem.placed (SS l) _).toList = l.map uppC
  exact placed_SS l _ uppC fun i c e => upp_tab c (h c (List.mem_of_getElem? e))
theorem lowC_lt {c : Nat} (h : c < 128) : lowC c < 128 := by
  unfold lowC
  split
  · rename_i q
    simp at q
    omega
  · exact h
theorem uppC_lt {c : Nat} (h : c < 128) : uppC c < 128 := by
  unfold uppC
  split
  · omega
  · exact h
theorem Asc.map {l : List Nat} {f : Nat → Nat} (h : Asc l) (hf : ∀ {c}, c < 128 → f c < 128) : Asc (l.map f) := fun c hc => by
  obtain ⟨d, hd, rfl⟩ := List.mem_map.mp hc
  exact hf (h d hd)
def mLower : DM := fun a ds M K => match ds with
  | [] => a.length ≤ 5592405 ∧ K (.str (a.map lowC)) M
  | _ => False
def mUpper : DM := fun a ds M K => match ds with
  | [] => a.length ≤ 5592405 ∧ K (.str (a.map uppC)) M
  | _ => False
section
variable {X : Cx}
theorem md_lower : MtD X "str.lower" mLower := by
  intro O F A H σ Γ vs T M K ws ds a s ha p h
  match ds, p, h with
  | [], .nil, ⟨hz, k⟩ => exact ⟨_, mt_lower, SS a, rfl, rfl, by rw [len_SS]; exact hz, by rw [lower_SS ha]; exact post_c s (.str _ (ha.map lowC_lt)) k⟩
theorem md_upper : MtD X "str.upper" mUpper := by
  intro O F A H σ Γ vs T M K ws ds a s ha p h
  match ds, p, h with
  | [], .nil, ⟨hz, k⟩ => exact ⟨_, mt_upper, SS a, rfl, rfl, by rw [len_SS]; exact hz, by rw [upper_SS ha]; exact post_c s (.str _ (ha.map uppC_lt)) k⟩
end
/-! ### enumerate of a list -/
def enD {α : Type} (f : α → D) (l : List α) : List D := l.mapIdx fun i x => .tp [.int (i : Nat), f x]
def iEn (t : DA) : DIt := fun Γ M Kt R => t Γ M (fun ds M1 => ∃ d l, ds = [d] ∧ lsOf M1 d = some l ∧ Kt (enD id l) (fun M' => lsOf M' d = some l) M1) R
section
variable {X : Cx} {e : Expr} {ta : DA} {p pos tpos : Pos} {elts : List Expr} {kk : Nat}
theorem si_en (hm : X.mg "enumerate" = none) (sa : SA X [e] ta) (hg : Gl X "enumerate" := by rfl) (hs : starEach [e] X.env = [(false, eval e X.env)] := by rfl) : SI X (.Tuple elts kk tpos) (.Call (.Name "enumerate" p) [e] [] pos) (iEn ta) := fun W tk O F A H σ Γ vs T M Kt R s lf h => by
  refine bIt_of (pi_enum hg hm bA_ok hs) (bA_mono (sa W tk O F A H σ Γ vs T M _ R s lf h) fun ws H1 ⟨ds, M1, F1, A1, s1, q, d, l, e, hl, k⟩ => ?_)
  subst e
  cases q with
  | cons r t =>
    cases t
    obtain ⟨a, xs, rfl, hq, p⟩ := s1.lst r hl
    refine ⟨a, xs, rfl, hq, enD id l, _, M1, F1, A1, [.ref a], [d], rfl, s1.push r, ⟨fun {O F A H σ Γ vs T M} i s hc d' hd => ?_, fun {O F A H σ Γ vs T M} i s hc hi => ?_⟩, k⟩
    · obtain ⟨b, ys, e, hq2, p2⟩ := s.lst (StOk.top s) hc
      cases e
      unfold enD at hd
      rw [List.getElem?_mapIdx] at hd
      cases hx : l[i]? with
      | none => rw [hx] at hd; cases hd
      | some x =>
        rw [hx] at hd
        have hd : d' = .tp [.int (i : Nat), x] := (Option.some.inj hd).symm
        subst hd
        obtain ⟨v, hv, iv⟩ := p2.some hx
        refine ⟨⟨ys, v, hq2, hv⟩, fun y H' ⟨T', x', e1, e2, e3, hall⟩ => ?_⟩
        subst e1
        have ex : x' = v := by
          have := hall ys hq2
          rw [hv] at this
          exact (Option.some.inj this).symm
        subst ex
        subst e3
        refine ⟨_, s.new e2, Is.tpL (st_of upd_same) ?_⟩
        have ex : Ex F (upd F T' (.tup [.int (i : Nat), x'])) := Ex.new (fresh_back s.exH e2)
        exact .cons (.int _) (.cons (iv.mono ex (List.prefix_refl _)) .nil)
    · obtain ⟨b, ys, e, hq2, p2⟩ := s.lst (StOk.top s) hc
      cases e
      unfold enD at hi
      rw [List.length_mapIdx] at hi
      exact ⟨ys, hq2, by rw [p2.len]; exact hi⟩
end
/-! ### a op b op c -/
section
variable {X : Cx} {a b c : Expr} {ta tb tc : DE} {pos : Pos}
theorem se_chain {op op' : CmpOp} {r r' : DO2} (hi : IsB r) (ho : OpD X (compareOp op) r) (ho' : OpD X (compareOp op') r') (sa : SE X a ta) (sb : SE X b tb) (sc : SE X c tc) (hm : lastMarks [op, op'] [b, c] = false := by with_unfolding_all rfl) :
    SE X (.Compare a [op, op'] [b, c] pos) (dChain r r' ta tb tc) := fun W tk O F A H σ Γ vs T M K R s lf h => by
  refine bE_of (pe_chain bO_ok bO_ok bE_ok bE_ok bE_ok hm) ?_
  refine bE_mono (sa W tk O F A H σ Γ vs T M _ R s lf h) fun v1 H1 ⟨d1, M1, F1, A1, s1, h1⟩ => ?_
  refine bE_mono (sb W tk O F1 A1 H1 σ Γ (v1 :: vs) (d1 :: T) M1 _ R s1 lf.pop h1) fun v2 H2 ⟨d2, M2, F2, A2, s2, h2⟩ => ?_
  have i1 := s2.pop.top
  have i2 := s2.top
  refine bO_mono (ho O F2 A2 H2 σ Γ (v2 :: vs) (d2 :: T) M2 _ v1 v2 d1 d2 (s2.pop.pop.push i2) i1 i2 h2) fun v3 H3 ⟨d3, M3, F3, A3, s3, k, e, hk⟩ => ?_
  subst e
  refine ⟨k, is_bl s3.top, ?_⟩
  cases k with
  | true =>
    refine bE_mono (sc W tk O F3 A3 H3 σ Γ (v2 :: vs) (d2 :: T) M3 _ R s3.pop lf.pop hk) fun v4 H4 ⟨d4, M4, F4, A4, s4, h4⟩ => ?_
    exact ho' O F4 A4 H4 σ Γ vs T M4 K v2 v4 d2 d4 s4.pop.pop s4.pop.top s4.top h4
  | false => exact ⟨.bl false, M3, F3, A3, s3.pop.pop.push (.bl false), hk⟩
end
end L3

namespace L3
open PySem PySem.Spec PyProof.Rows L2 Evl
open Classical

/-! ### f-strings -/
/-- the sign of a digit to 16 -/
def hexC (d : Nat) : Nat := if d < 10 then d + 48 else d + 55
abbrev spX : Str := "02X"
theorem fmtX : ∃ g : Int → Str, (∀ (a : Int) (t u : Tok), PySem.Builtin.«int.__format__» ⟨[.int a t, .str spX u], []⟩ = (do
    let _ ← typeNameOf (.str spX u)
    let _ ← typeNameOfCut 200 (.int a t)
    retStr (g a))) ∧ ∀ a : Fin 256, g ((a : Nat) : Int) = SS [hexC (a / 16), hexC (a % 16)] :=
  ⟨_, fun a t u => rfl, by decide +kernel⟩
def hexT (a : Nat) : List Nat := [hexC (a / 16), hexC (a % 16)]
theorem gives_X {a : Nat} (h : a < 256) (t u : Tok) : PySem.Gives (PySem.Builtin.«int.__format__» ⟨[.int (a : Nat) t, .str spX u], []⟩) (.str (SS (hexT a))) := by
  obtain ⟨g, h1, h2⟩ := fmtX
  rw [h1]
  refine gives_after_typeNameOf (T := "str") (fun s => typeIs_str s _ _) (by decide) fun _ => ?_
  intro prog w A R s hq
  refine wpAny_bind (wpAny_typeNameOfCut_int ?_)
  have e : g ((a : Nat) : Int) = SS (hexT a) := h2 ⟨a, h⟩
  rw [e]
  exact (PySem.Gives.of_eq (t := retStr (SS (hexT a))) rfl : PySem.Gives _ _) prog w A R s hq
section
variable {X : Cx}
/-- {i:02X} -/
def tFmtX (te : TE) : TE := fun σ H Q => te σ H fun x H1 => ∃ a : Nat, x = .int (a : Nat) ∧ a < 256 ∧ Q (.str (SS (hexT a))) H1
theorem pe_fmtX {e : Expr} {te : TE} {k : Nat} {p3 p4 pos : Pos} (he : PE X e te) : PE X (.FormattedValue e (-1) (some (.JoinedStr [.Constant (.str spX) k p3] p4)) pos) (tFmtX te) := by
  refine ⟨fun pins s σ H Q I h => ?_⟩
  refine wpAny_FormattedValue_spec (thn (he.run pins s σ H _ I h) fun v s1 ⟨x, H1, I1, r1, a, e, ha, q⟩ => ?_)
  subst e
  obtain ⟨t, rfl⟩ := r1
  refine thn ((pe_joined1 (pe_str (X := X) (x := spX) (j := k) (pos := p3))).run pins s1 σ H1 (fun y H2 => y = .str spX ∧ H2 = H1) I1 ⟨rfl, rfl⟩) fun r s2 ⟨y, H2, I2, r2, e1, e2⟩ => ?_
  subst e1; subst e2
  obtain ⟨u, rfl⟩ := r2
  refine ⟨spX, u, rfl, ?_⟩
  exact wpAny_formatField_spec rfl (fun s' => typeIs_int s' _ t) F.slot_int_format F.entry_int_format F.args_int_format_2 (fun u => gives_X ha t u) ⟨.str (SS (hexT a)), H2, I2.tok _, ⟨_, rfl⟩, q⟩ (by decide) (by rw [len_SS, sizeLine_eq]; show 2 ≤ _; decide)
/-- f'{a}{i:02X}' -/
def dEsc (ta tb : DE) : DE := fun Γ M K R => ta Γ M (fun d1 M1 => match d1 with
  | .str a => a.length ≤ 1000 ∧ tb Γ M1 (fun d2 M2 => match d2 with
    | .int i => ∃ n : Nat, i = n ∧ n < 256 ∧ K (.str (a ++ hexT n)) M2
    | _ => False) R
  | _ => False) R
theorem hexC_lt {d : Nat} (h : d < 16) : hexC d < 128 := by unfold hexC; split <;> omega
theorem asc_hexT {a : Nat} (h : a < 256) : Asc (hexT a) := fun c hc => by
  have h1 : a / 16 < 16 := by omega
  have h2 : a % 16 < 16 := by omega
  rcases List.mem_cons.mp hc with e | e
  · rw [e]; exact hexC_lt h1
  · rw [List.mem_singleton.mp e]; exact hexC_lt h2
theorem se_esc {a b : Expr} {ta tb : DE} {k : Nat} {p1 p3 p4 p5 pos : Pos} (sa : SE X a ta) (sb : SE X b tb) : SE X (.JoinedStr [.FormattedValue a (-1) none p1, .FormattedValue b (-1) (some (.JoinedStr [.Constant (.str spX) k p3] p4)) p5] pos) (dEsc ta tb) := fun W tk O F A H σ Γ vs T M K R s lf h => by
  refine bE_of (pe_joined (.cons (pe_fmt bE_ok) (.cons (pe_fmtX bE_ok) .nil))) ?_
  refine bE_mono (sa W tk O F A H σ Γ vs T M _ R s lf h) fun v1 H1 ⟨d1, M1, F1, A1, s1, h1⟩ => ?_
  cases d1 with
  | str l =>
    have ha := is_asc s1.top
    obtain ⟨hl, h1⟩ := h1
    refine .inl ?_
    have ev := is_str s1.top
    subst ev
    have e0 : Str.empty ++ SS l = SS l := app_SS [] l
    refine ⟨SS l, rfl, by rw [len_SS, sizeLine_eq]; omega, SS l, rfl, by rw [e0, len_SS, sizeLine_eq]; omega, ?_⟩
    rw [e0]
    refine bE_mono (sb W tk O F1 A1 H1 σ Γ (_ :: vs) (.str l :: T) M1 _ R s1 lf.pop h1) fun v2 H2 ⟨d2, M2, F2, A2, s2, h2⟩ => ?_
    cases d2 with
    | int i =>
      obtain ⟨n, rfl, hn, k⟩ := h2
      refine ⟨n, is_int s2.top, hn, SS (hexT n), rfl, ?_, ?_⟩
      · rw [app_SS, len_SS, sizeLine_eq, List.length_append]
        show l.length + 2 ≤ _
        omega
      · rw [app_SS]
        exact ⟨.str (l ++ hexT n), M2, F2, A2, s2.pop.pop.push (.str _ (ha.app (asc_hexT hn))), k⟩
    | _ => exact h2.elim
  | _ => exact h1.elim
end
end L3

namespace L3
open PySem PySem.Spec PyProof.Rows L2 Evl
open Classical

/-! ### enumerate of a text -/
theorem draws_shift {prog : Program} {w : World} {A : Around} {it : Addr} {fp : List Addr} {n : Nat} {P : Nat → Value → Prop} {St : Nat → Heap → Prop} (D : Draws prog w A it fp n P St) (k : Nat) :
    Draws prog w A it fp (k + n) (fun j v => P (j - k) v) (fun j h => k ≤ j ∧ St (j - k) h) where
  live := fun i h st => D.live _ h st.2
  frame := fun i h h' st kk => ⟨st.1, D.frame _ h h' st.2 kk⟩
  item := fun i s Q E hi st hQ => D.item (i - k) s Q E (by have := st.1; omega) st.2 fun x h' tk p st' sb => hQ x h' tk p ⟨by have := st.1; omega, by
    have e : i + 1 - k = i - k + 1 := by have := st.1; omega
    rw [e]
    exact st'⟩ sb
  done := fun s Q E st hE => D.done s Q E (by have := st.2; rwa [Nat.add_sub_cancel_left] at this) hE
theorem enum_end {prog : Program} {w : World} {A : Around} {E : Value → Shared → Prop} {s : Shared} {e it : Addr} {i : Int} {old : Value} {Q : Option Value → Shared → Prop} (he : IsEnum s.heap e it i old)
    (D : ∀ (Q : Value → Shared → Prop) (E : Value → Shared → Prop), (∀ h' e, Heap.ExtBut it s.heap h' → (∃ o, h'.get? e = some o ∧ o.cls = .type "StopIteration") → E (.ref e) { s with heap := h' }) → wpAny (model prog w) A.in1 (Builtin.SmallTypes.nextOf (.ref it)) Q E s)
    (hQ : ∀ h', Heap.ExtBut it s.heap h' → Q none { s with heap := h' }) : wpAny (model prog w) A (pyNext (.ref e)) Q E s := by
  have hT : s.TypeIs (.ref e) "enumerate" := ⟨_, he, rfl⟩
  unfold pyNext
  refine wpAny_bind (wpAny_attempt (wpAny_callSpecial?_slot (name := Str.ofString "__next__") hT F.slot_enumerate_next
    (wpAny_call_entry F.slot_enumerate_next hT F.entry_enumerate_next ?_ (F.args_enumerate_next_1 _))))
  show wpAny _ _ (field (.ref e) 2 >>= _) _ _ _
  refine wpAny_bind (wpAny_field he rfl (x := .ref it) rfl ?_)
  refine wpAny_bind (D _ _ fun h' x he' hx' => ?_)
  obtain ⟨o, ho, hc⟩ := hx'
  refine wpAny_bind (wpAny_isInstance (T := "StopIteration") (b := true) ⟨o, ho, hc⟩ isSubtype_stop ?_)
  exact wpAny_pure (hQ _ he')
def ItsE (x : Str) (k : Nat) : It :=
  ⟨fun i _ => i < x.cps.size, fun i H v H' => ∃ T c, v = .ref T ∧ H T = none ∧ H' = upd H T (.tup [.int ((k + i : Nat)), .str ⟨#[c]⟩]) ∧ x.cps[i]? = some c, fun i _ => x.cps.size ≤ i⟩
theorem turn_enumS {P : Program} {w : World} {K : PySem.W.Frag} {elts : List Expr} {kk : Nat} {tpos : Pos} (e it : Addr) (x : Str) (t : Tok) (ty : String) (k : Nat) (hty : ty = "str_ascii_iterator" ∨ ty = "str_iterator") :
    Turn P w K (.Tuple elts kk tpos) (ItsE x k) [e, it] e (fun i h => (∃ old, IsEnum h e it ((k + i : Nat) : Int) old) ∧ h.IsStrIter it ty x t i ∧ e ≠ it) where
  mem := by simp
  obj := fun i h st b hb => by
    obtain ⟨⟨old, he⟩, ⟨o, ho, hc, hd⟩, _⟩ := st
    have e' : b = e ∨ b = it := by simpa using hb
    rcases e' with z | z
    · rw [z]; exact ⟨_, he, fun v q => nomatch q⟩
    · rw [z]; exact ⟨o, ho, fun v q => by rw [hd] at q; cases q⟩
  keep := fun i h h' st k' => let ⟨⟨old, he⟩, ⟨o, ho, r⟩, hne⟩ := st; ⟨⟨old, k' e (by simp) _ he⟩, ⟨o, k' it (by simp) o ho, r⟩, hne⟩
  item := by
    intro X hP hw hK hc i pins s σ H E I hf st hg
    subst hP hw hK
    obtain ⟨⟨old, he⟩, hit, hne⟩ := st
    have hh : X.A.handled = none := I.ok.hd hc
    have hh1 : X.A.in1.handled = none := hh
    have hel : e < s.heap.objs.size := Heap.lt_size he
    have hil : it < s.heap.objs.size := by obtain ⟨_, q, _⟩ := hit; exact Heap.lt_size q
    have D0 : Draws X.prog X.w X.A.in1 it [it] x.cps.size (fun i v => ∃ c u, x.cps[i]? = some c ∧ v = .str ⟨#[c]⟩ u) (fun i h => h.IsStrIter it ty x t i) := by
      rcases hty with z | z
      · rw [z]; exact Draws.strAscii hh1 it x t
      · rw [z]; exact Draws.strWide hh1 it x t
    have hg : i < x.cps.size := hg
    refine wpAny_pyNext_enum_itemD (draws_shift D0 k) he (show k ≤ k + i ∧ s.heap.IsStrIter it ty x t (k + i - k) from ⟨by omega, by rw [Nat.add_sub_cancel_left]; exact hit⟩) (by omega) hne (by simpa using hne) fun v h' tk hP ho hst hT hsz hk => ?_
    obtain ⟨c, u, hc', rfl⟩ := hP
    rw [Nat.add_sub_cancel_left] at hc'
    have hit' : h'.IsStrIter it ty x t (i + 1) := by
      have := hst.2
      rwa [show k + i + 1 - k = i + 1 by omega] at this
    refine ⟨_, rfl, wpAny_letOwnedTupleGo_enum (s := { s with heap := h', toks := tk + 1 }) ho fun h'' he' sb => ?_⟩
    have hT2 : h''.get? s.heap.objs.size = some { cls := .type "tuple", data := .seq #[.int ((k + i : Nat) : Int) tk, .str ⟨#[c]⟩ u] } := (sb.2 _ (Nat.ne_of_gt hel)).trans hT
    have new : ObjOk X.prog X.w (upd H s.heap.objs.size (.tup [.int ((k + i : Nat)), .str ⟨#[c]⟩])) h'' s.heap.objs.size (.tup [.int ((k + i : Nat)), .str ⟨#[c]⟩]) :=
      ⟨by show 2 ≤ sizeLine; decide, [.int ((k + i : Nat) : Int) tk, .str ⟨#[c]⟩ u], .cons ⟨_, rfl⟩ (.cons ⟨_, rfl⟩ .nil), ⟨_, hT2, rfl, _, rfl⟩⟩
    have I1 : Inv X pins σ (upd H s.heap.objs.size (.tup [.int ((k + i : Nat)), .str ⟨#[c]⟩])) { s with heap := h'', toks := tk + 1 } :=
      I.turnedNew (ch := [e, it]) (fun b ob hb q => (sb.2 b (fun z => hb (by simp [z]))).trans (hk b ob (fun z => hb (by simp [z])) (fun z => hb (by simp [z])) q)) hf (Nat.le_refl _) new
    refine ⟨.ref s.heap.objs.size, _, I1, rfl, ⟨_, c, rfl, I.hok.fresh (Nat.le_refl _), rfl, hc'⟩, ⟨⟨.str ⟨#[c]⟩ u, ?_⟩, ?_, hne⟩, fun b hb => ?_⟩
    · have e1 : ((k + (i + 1) : Nat) : Int) = ((k + i : Nat) : Int) + 1 := by omega
      rw [e1]; exact he'
    · obtain ⟨o, ho', r⟩ := hit'
      exact ⟨o, (sb.2 it (Ne.symm hne)).trans ho', r⟩
    · have hb' : b < s.heap.objs.size := by
        have e' : b = e ∨ b = it := by simpa using hb
        rcases e' with z | z
        · rw [z]; exact hel
        · rw [z]; exact hil
      rw [upd_ne (Nat.ne_of_lt hb')]
      exact (hf b hb).1
  done := by
    intro X hP hw hK hc i pins s σ H E I hf st hg
    subst hP hw hK
    obtain ⟨⟨old, he⟩, hit, hne⟩ := st
    obtain ⟨f0, f1, f2, f3, f4, f5⟩ := hf it (by simp)
    have hh1 : X.A.in1.handled = none := I.ok.hd hc
    have hg : x.cps.size ≤ i := hg
    have hx : x.cps[i]? = none := Array.getElem?_eq_none hg
    refine enum_end he (fun Q E q => ?_) fun h' eb => ⟨rfl, I.turned (t' := s.toks) (fun b o hb q => eb b o hb q) f0 f1 f3 f4 f5⟩
    rcases hty with z | z
    · rw [z] at hit; exact wpAny_nextOf_ascii_end hh1 hit hx q
    · rw [z] at hit; exact wpAny_nextOf_wide_end hh1 hit hx q
  self := fun A i s Q E st h => let ⟨⟨_, he⟩, _⟩ := st; wpAny_pyIter_enum he h
theorem strTy (x : Str) : strIterType x = "str_ascii_iterator" ∨ strIterType x = "str_iterator" := by
  unfold strIterType
  split
  · exact .inl rfl
  · exact .inr rfl
/-- the state behind enumerate(text) -/
theorem pie_enumS {X : Cx} {pins : List (Addr × Obj)} {σ : L2.St} {H : Hp} {s : Shared} {R : It → Hp → Prop} {x : Str} {t : Tok} {k : Nat} {h' : Heap} {elts : List Expr} {kk : Nat} {tpos : Pos} (I : Inv X pins σ H s) (he : IsEnum h' (s.heap.objs.size + 1) s.heap.objs.size ((k : Nat) : Int) .none)
    (hit : h'.IsStrIter s.heap.objs.size (strIterType x) x t 0) (hk : ∀ b o, s.heap.get? b = some o → h'.get? b = some o) (q : R (ItsE x k) H) : PIE X pins σ (.Tuple elts kk tpos) R (.ref (s.heap.objs.size + 1)) { s with heap := h' } := by
  have I2 : Inv X pins σ H { s with heap := h' } := I.kept (t' := s.toks) hk
  refine ⟨s.heap.objs.size + 1, [s.heap.objs.size + 1, s.heap.objs.size], _, _, H, rfl, I2, turn_enumS (s.heap.objs.size + 1) s.heap.objs.size x t _ k (strTy x), ⟨⟨.none, by simpa using he⟩, hit, Nat.succ_ne_self _⟩, fun b hb => ?_, q⟩
  have e' : b = s.heap.objs.size + 1 ∨ b = s.heap.objs.size := by simpa using hb
  have hle : s.heap.objs.size ≤ b := by
    rcases e' with z | z
    · rw [z]; exact Nat.le_add_right _ _
    · rw [z]; exact Nat.le_refl _
  exact I.fpOk hle (I.hok.fresh hle)
def iEnS0 (ta : TA) : TI := fun σ H R => ta σ H fun vs H1 => ∃ x, vs = [.str x] ∧ R (ItsE x 0) H1
theorem pi_enumS {X : Cx} {e : Expr} {ta : TA} {p pos tpos : Pos} {elts : List Expr} {kk : Nat} (hg : Gl X "enumerate") (hm : X.mg "enumerate" = none) (ha : PA X [e] ta) (hs : starEach [e] X.env = [(false, eval e X.env)] := by rfl) :
    PI X (.Tuple elts kk tpos) (.Call (.Name "enumerate" p) [e] [] pos) (iEnS0 ta) := by
  refine ⟨fun pins s σ H R I h => ?_⟩
  refine Call_ (ld_blt I hg hm boot_enumerate (PyProof.Rows.callWith_type1 (thn (ha.run pos pins s σ H _ I h) fun us s1 ⟨vs, H1, I1, r1, q1⟩ => ?_) hs rfl))
  obtain ⟨x, ex, q⟩ := q1
  subst ex
  cases r1 with
  | cons r rr =>
    cases rr
    obtain ⟨t, rfl⟩ := r
    exact call_enumerate_str fun h' he hit hsz hk => wpAny_pyIter_enum he (pie_enumS I1 he hit hk q)
/-- the items -/
def enS (k : Nat) (l : List Nat) : List D := l.mapIdx fun i c => .tp [.int ((k + i : Nat)), .str [c]]
def iEnS (t : DA) : DIt := fun Γ M Kt R => t Γ M (fun ds M1 => ∃ l, ds = [.str l] ∧ Kt (enS 0 l) (fun _ => True) M1) R
theorem walk_enS {X : Cx} (k : Nat) {l : List Nat} (ha : Asc l) : WalkD X (ItsE (SS l) k) (enS k l) (fun _ => True) [] [] := by
  have hsz : (SS l).cps.size = l.length := by simp
  refine ⟨fun {O F A H σ Γ vs T M} i s hc d' hd => ?_, fun {O F A H σ Γ vs T M} i s hc hi => ?_⟩
  · unfold enS at hd
    rw [List.getElem?_mapIdx] at hd
    cases hx : l[i]? with
    | none => rw [hx] at hd; cases hd
    | some c =>
      rw [hx] at hd
      have hd : d' = .tp [.int ((k + i : Nat)), .str [c]] := (Option.some.inj hd).symm
      subst hd
      refine ⟨show i < (SS l).cps.size by rw [hsz]; exact (List.getElem?_eq_some_iff.mp hx).1, fun y H' ⟨T', c', e1, e2, e3, e4⟩ => ?_⟩
      subst e1
      have e4 : l[i]? = some c' := by
        have := e4
        simpa using this
      rw [hx] at e4
      cases e4
      subst e3
      have hac : Asc [c] := fun x hx' => by
        have e : x = c := by simpa using hx'
        rw [e]
        exact ha c (List.mem_of_getElem? hx)
      refine ⟨_, s.new e2, Is.tpL (st_of upd_same) (.cons (.int _) (.cons (.str [c] hac) .nil))⟩
  · show (SS l).cps.size ≤ i
    rw [hsz]
    unfold enS at hi
    simpa using hi
section
variable {X : Cx} {e : Expr} {ta : DA} {p pos tpos : Pos} {elts : List Expr} {kk : Nat}
theorem si_enS (hm : X.mg "enumerate" = none) (sa : SA X [e] ta) (hg : Gl X "enumerate" := by rfl) (hs : starEach [e] X.env = [(false, eval e X.env)] := by rfl) : SI X (.Tuple elts kk tpos) (.Call (.Name "enumerate" p) [e] [] pos) (iEnS ta) := fun W tk O F A H σ Γ vs T M Kt R s lf h => by
  refine bIt_of (pi_enumS hg hm bA_ok hs) (bA_mono (sa W tk O F A H σ Γ vs T M _ R s lf h) fun ws H1 ⟨ds, M1, F1, A1, s1, q, l, e, k⟩ => ?_)
  subst e
  cases q with
  | cons r t =>
    cases t
    have ha := is_asc r
    rw [is_str r]
    exact ⟨SS l, rfl, enS 0 l, _, M1, F1, A1, [], [], rfl, s1, walk_enS 0 ha, k⟩
end
end L3

namespace L3
open PySem PySem.Spec PyProof.Rows L2 Evl
open Classical

/-! ### enumerate(text, start=k) -/
section
variable {M : Model} {A : Around} {E : Value → Shared → Prop} {s : Shared} {env : Env}
theorem callWith_type_kwB {pos : Pos} {T : String} {first : List Value} {args : List (Bool × Sem Value)} {keywords : List (Option Str × Sem Value)} {Q : Value → Shared → Prop}
    (hplain : args.any (·.1) = false) (hkw : keywords.any (·.1.isNone) = false)
    (h : wpAny M A (evalArgs (.type T) true args keywords) (fun a s₁ => wpAny M A (call (.type T) (first ++ a.pos) a.kw) Q E s₁) E s) :
    wpAny M A (callWith pos (.type T) first args keywords) Q E s := by
  unfold callWith
  refine wpAny_bind (wpAny_holding (wpAny_mono h (fun a s₁ h₁ => wpAny_bind (wpAny_standAt ?_)) fun _ _ x => x))
  simp only [hplain, hkw, Bool.or_false]
  refine wpAny_bind (wpAny_pure ?_)
  exact wpAny_bind (wpAny_mono h₁ (fun r s₂ hr => wpAny_bind (wpAny_holding (wpAny_point (wpAny_pure hr)))) fun _ _ x => x)
theorem callWith_typeKw {pos : Pos} {T : String} {e : Expr} {rest : List Expr} {kws : List Keyword} {Q : Value → Shared → Prop}
    (h : wpAny M A (spliced (backTo pos (starEach (e :: rest) env))) (fun vs s₁ => wpAny M A (evalAll ((backToKw pos (keywordEach kws env)).map (·.2)))
      (fun kvs s₂ => wpAny M A (call (.type T) vs (((backToKw pos (keywordEach kws env)).filterMap (·.1)).zip kvs)) Q E s₂) E s₁) E s)
    (he : backTo pos (starEach (e :: rest) env) = (false, eval e env) :: backTo pos (starEach rest env))
    (hplain : (backTo pos (starEach (e :: rest) env)).any (·.1) = false)
    (hall : (backToKw pos (keywordEach kws env)).all (·.1.isSome) = true)
    (hkw : (backToKw pos (keywordEach kws env)).any (·.1.isNone) = false) :
    wpAny M A (callWith pos (.type T) [] (backTo pos (starEach (e :: rest) env)) (backToKw pos (keywordEach kws env))) Q E s := by
  refine callWith_type_kwB hplain hkw ?_
  rw [he] at h ⊢
  exact PyProof.Rows.evalArgs_kwB hall h
end
theorem pi_enumSK {X : Cx} {e : Expr} {kws : List Keyword} {ta tk : TA} {p pos tpos : Pos} {elts : List Expr} {kk : Nat} (hg : Gl X "enumerate") (hm : X.mg "enumerate" = none) (ha : PA X [e] ta) (hk : PK X kws tk)
    (he : backTo pos (starEach [e] X.env) = (false, eval e X.env) :: backTo pos (starEach [] X.env) := by rfl) (hpl : (backTo pos (starEach [e] X.env)).any (·.1) = false := by rfl)
    (hall : (backToKw pos (keywordEach kws X.env)).all (·.1.isSome) = true := by rfl) (hnone : (backToKw pos (keywordEach kws X.env)).any (·.1.isNone) = false := by rfl) (hks : (backToKw pos (keywordEach kws X.env)).filterMap (·.1) = [Str.ofString "start"] := by rfl) :
    PI X (.Tuple elts kk tpos) (.Call (.Name "enumerate" p) [e] kws pos) (fun σ H R => ta σ H fun vs H1 => tk σ H1 fun zs H2 => ∃ x k, vs = [.str x] ∧ zs = [.int ((k : Nat) : Int)] ∧ k < 1000 ∧ R (ItsE x k) H2) := by
  refine ⟨fun pins s σ H R I h => ?_⟩
  refine wpAny_Call_Name_kw (ld_blt I hg hm boot_enumerate ?_)
  refine callWith_typeKw (thn (ha.run pos pins s σ H _ I h) fun us s1 ⟨vs, H1, I1, r1, q1⟩ => thn (hk.run pos pins s1 σ H1 _ I1 q1) fun ws s2 ⟨zs, H2, I2, r2, x, k, e1, e2, hk', q⟩ => ?_) he hpl hall hnone
  rw [hks]
  subst e1; subst e2
  obtain ⟨u, rfl, t, rfl⟩ := vals1 r1
  obtain ⟨w', rfl, t', rfl⟩ := vals1 r2
  exact enum_begins_start (begins_text x t) trivial (by omega) (by omega) fun h' he hit hsz hk => wpAny_pyIter_enum he (pie_enumS I2 he ⟨_, hit, rfl, rfl⟩ hk q)
def iEnSK (t u : DA) : DIt := fun Γ M Kt R => t Γ M (fun ds M1 => u Γ M1 (fun es M2 => ∃ l k, ds = [.str l] ∧ es = [.int ((k : Nat) : Int)] ∧ k < 1000 ∧ Kt (enS k l) (fun _ => True) M2) R) R
section
variable {X : Cx} {e : Expr} {kws : List Keyword} {ta tu : DA} {p pos tpos : Pos} {elts : List Expr} {kk : Nat}
theorem si_enSK (hm : X.mg "enumerate" = none) (sa : SA X [e] ta) (sk : SK X kws tu) (hg : Gl X "enumerate" := by rfl)
    (he : backTo pos (starEach [e] X.env) = (false, eval e X.env) :: backTo pos (starEach [] X.env) := by rfl) (hpl : (backTo pos (starEach [e] X.env)).any (·.1) = false := by rfl)
    (hall : (backToKw pos (keywordEach kws X.env)).all (·.1.isSome) = true := by rfl) (hnone : (backToKw pos (keywordEach kws X.env)).any (·.1.isNone) = false := by rfl) (hks : (backToKw pos (keywordEach kws X.env)).filterMap (·.1) = [Str.ofString "start"] := by rfl) :
    SI X (.Tuple elts kk tpos) (.Call (.Name "enumerate" p) [e] kws pos) (iEnSK ta tu) := fun W tk O F A H σ Γ vs T M Kt R s lf h => by
  refine bIt_of (pi_enumSK hg hm bA_ok bK_ok he hpl hall hnone hks) (bA_mono (sa W tk O F A H σ Γ vs T M _ R s lf h) fun ws H1 ⟨ds, M1, F1, A1, s1, q, hk1⟩ => ?_)
  have e := q.len
  refine bK_mono (sk W tk O F1 A1 H1 σ Γ (ws ++ vs) (ds ++ T) M1 _ R (s1.pushL q) (lf.popL e) hk1) fun zs H2 ⟨es, M2, F2, A2, s2, q2, l, k, e1, e2, hk, kt⟩ => ?_
  obtain ⟨s3, q3⟩ := s2.popL e
  subst e1; subst e2
  cases q3 with
  | cons r t =>
    cases t
    cases q2 with
    | cons r' t' =>
      cases t'
      have ha := is_asc r
      rw [is_str r, is_int r']
      exact ⟨SS l, k, rfl, rfl, hk, enS k l, _, M2, F2, A2, [], [], rfl, s3, walk_enS k ha, kt⟩
end
end L3

namespace L3
open PySem PySem.Spec PyProof.Rows L2 Evl
open Classical

/-! ### zip -/
def zpD : List D → List D → List D
  | x :: l, y :: m => .tp [x, y] :: zpD l m
  | _, _ => []
def iZp (t : DA) : DIt := fun Γ M Kt R => t Γ M (fun ds M1 => ∃ x y, ds = [x, y] ∧ ((∃ l m, lsOf M1 x = some l ∧ lsOf M1 y = some m ∧ Kt (zpD l m) (fun M' => lsOf M' x = some l ∧ lsOf M' y = some m) M1) ∨
  ∃ l m, tpOf x = some l ∧ tpOf y = some m ∧ Kt (zpD l m) (fun _ => True) M1)) R
theorem zp_get : ∀ {l m : List D} {i : Nat} {d : D}, (zpD l m)[i]? = some d → ∃ x y, l[i]? = some x ∧ m[i]? = some y ∧ d = .tp [x, y]
  | [], _, i, d, h => by simp [zpD] at h
  | _ :: _, [], i, d, h => by simp [zpD] at h
  | x :: l, y :: m, 0, d, h => ⟨x, y, rfl, rfl, (Option.some.inj h).symm⟩
  | x :: l, y :: m, i + 1, d, h => by
    obtain ⟨a, b, h1, h2, h3⟩ := zp_get (l := l) (m := m) (i := i) (d := d) (by simpa [zpD] using h)
    exact ⟨a, b, by simpa using h1, by simpa using h2, h3⟩
theorem zp_end : ∀ {l m : List D} {i : Nat}, (zpD l m).length ≤ i → l.length ≤ i ∨ m.length ≤ i
  | [], _, i, _ => .inl (Nat.zero_le _)
  | _ :: _, [], i, _ => .inr (Nat.zero_le _)
  | x :: l, y :: m, 0, h => by simp [zpD] at h
  | x :: l, y :: m, i + 1, h => by
    rcases zp_end (l := l) (m := m) (i := i) (by simpa [zpD] using h) with q | q
    · exact .inl (by simpa using q)
    · exact .inr (by simpa using q)
section
variable {X : Cx} {e e2 : Expr} {ta : DA} {p pos tpos : Pos} {elts : List Expr} {kk : Nat}
theorem si_zp (hm : X.mg "zip" = none) (sa : SA X [e, e2] ta) (hg : Gl X "zip" := by rfl) (hs : starEach [e, e2] X.env = (false, eval e X.env) :: starEach [e2] X.env := by rfl) (hpl : (backTo pos (starEach [e2] X.env)).any (·.1) = false := by rfl) :
    SI X (.Tuple elts kk tpos) (.Call (.Name "zip" p) [e, e2] [] pos) (iZp ta) := fun W tk O F A H σ Γ vs T M Kt R s lf h => by
  refine bIt_of (RZ.pi_zipA hg hm bA_ok hs hpl) (bA_mono (sa W tk O F A H σ Γ vs T M _ R s lf h) fun ws H1 ⟨ds, M1, F1, A1, s1, q, x, y, e, k⟩ => ?_)
  subst e
  cases q with
  | cons r t =>
    cases t with
    | cons r2 t =>
      cases t
      rcases k with ⟨l, m, hl, hm, k⟩ | ⟨l, m, hl, hm, k⟩
      · obtain ⟨a, xs, rfl, hq, pa⟩ := s1.lst r hl
        obtain ⟨b, ys, rfl, hq2, pb⟩ := s1.lst r2 hm
        refine ⟨a, b, xs, ys, rfl, .inl ⟨hq, hq2, zpD l m, _, M1, F1, A1, [.ref a, .ref b], [x, y], rfl, (s1.push r2).push r, ⟨fun {O F A H σ Γ vs T M} i s hc d' hd => ?_, fun {O F A H σ Γ vs T M} i s hc hi => ?_⟩, k⟩⟩
        · obtain ⟨a', xs', e1, hq', pa'⟩ := s.lst (StOk.top s) hc.1
          obtain ⟨b', ys', e2, hq2', pb'⟩ := s.lst (StOk.top (StOk.pop s)) hc.2
          cases e1; cases e2
          obtain ⟨u, v, h1, h2, rfl⟩ := zp_get hd
          obtain ⟨vu, hu, iu⟩ := pa'.some h1
          obtain ⟨vv, hv, iv⟩ := pb'.some h2
          refine ⟨⟨xs', ys', vu, vv, hq', hq2', hu, hv⟩, fun z H' ⟨T', x1, y1, e1, e2, e3, hx, hy⟩ => ?_⟩
          subst e1; subst e3
          have ex : x1 = vu := by
            have := hx _ hq'
            rw [hu] at this
            exact (Option.some.inj this).symm
          have ey : y1 = vv := by
            have := hy _ hq2'
            rw [hv] at this
            exact (Option.some.inj this).symm
          subst ex; subst ey
          have ex : Ex F (upd F T' (.tup [x1, y1])) := Ex.new (fresh_back s.exH e2)
          exact ⟨_, s.new e2, Is.tpL (st_of upd_same) (.cons (iu.mono ex (List.prefix_refl _)) (.cons (iv.mono ex (List.prefix_refl _)) .nil))⟩
        · obtain ⟨a', xs', e1, hq', pa'⟩ := s.lst (StOk.top s) hc.1
          obtain ⟨b', ys', e2, hq2', pb'⟩ := s.lst (StOk.top (StOk.pop s)) hc.2
          cases e1; cases e2
          exact ⟨xs', ys', hq', hq2', by rw [pa'.len, pb'.len]; exact zp_end hi⟩
      · obtain ⟨a, xs, rfl, hq, pa⟩ := s1.tup r hl
        obtain ⟨b, ys, rfl, hq2, pb⟩ := s1.tup r2 hm
        refine ⟨a, b, xs, ys, rfl, .inr ⟨hq, hq2, zpD l m, _, M1, F1, A1, [.ref a, .ref b], [x, y], rfl, (s1.push r2).push r, ⟨fun {O F A H σ Γ vs T M} i s hc d' hd => ?_, fun {O F A H σ Γ vs T M} i s hc hi => ?_⟩, k⟩⟩
        · obtain ⟨a', xs', e1, hq', pa'⟩ := s.tup (StOk.top s) hl
          obtain ⟨b', ys', e2, hq2', pb'⟩ := s.tup (StOk.top (StOk.pop s)) hm
          cases e1; cases e2
          obtain ⟨u, v, h1, h2, rfl⟩ := zp_get hd
          obtain ⟨vu, hu, iu⟩ := pa'.some h1
          obtain ⟨vv, hv, iv⟩ := pb'.some h2
          refine ⟨⟨xs', ys', vu, vv, hq', hq2', hu, hv⟩, fun z H' ⟨T', x1, y1, e1, e2, e3, hx, hy⟩ => ?_⟩
          subst e1; subst e3
          have ex : x1 = vu := by
            have := hx _ hq'
            rw [hu] at this
            exact (Option.some.inj this).symm
          have ey : y1 = vv := by
            have := hy _ hq2'
            rw [hv] at this
            exact (Option.some.inj this).symm
          subst ex; subst ey
          have ex : Ex F (upd F T' (.tup [x1, y1])) := Ex.new (fresh_back s.exH e2)
          exact ⟨_, s.new e2, Is.tpL (st_of upd_same) (.cons (iu.mono ex (List.prefix_refl _)) (.cons (iv.mono ex (List.prefix_refl _)) .nil))⟩
        · obtain ⟨a', xs', e1, hq', pa'⟩ := s.tup (StOk.top s) hl
          obtain ⟨b', ys', e2, hq2', pb'⟩ := s.tup (StOk.top (StOk.pop s)) hm
          cases e1; cases e2
          exact ⟨xs', ys', hq', hq2', by rw [pa'.len, pb'.len]; exact zp_end hi⟩
end
/-! ### all, any, sum of lists; int of a text -/
def rAllD : DC := fun ds M K => match ds with
  | [d] => ∃ bs : List Bool, lsOf M d = some (bs.map .bl) ∧ K (.bl (bs.all id)) M
  | _ => False
def rAnyD : DC := fun ds M K => match ds with
  | [d] => ∃ bs : List Bool, lsOf M d = some (bs.map .bl) ∧ K (.bl (bs.any id)) M
  | _ => False
def rSumD : DC := fun ds M K => match ds with
  | [d] => ∃ ns : List Int, lsOf M d = some (ns.map .int) ∧ K (.int ns.sum) M
  | _ => False
/-- int(text, 16) -/
def rHex : DC := fun ds M K => match ds with
  | [.str l, .int 16] => l ≠ [] ∧ l.length ≤ 640 ∧ (∀ c ∈ l, Hx.IsHex c) ∧ K (.int ((Hx.hexNum l : Nat) : Int)) M
  | _ => False
section
variable {X : Cx}
theorem cd_all (hc : X.calm = true) : CallD X (.builtin "all") rAllD := by
  intro O F A H σ Γ vs T M K ws ds s p h
  cases p with
  | nil => exact h.elim
  | @cons v d vs' ds' i t =>
    cases t with
    | cons _ _ => exact h.elim
    | nil =>
      obtain ⟨bs, hl, k⟩ := h
      obtain ⟨a, xs, rfl, hq, q⟩ := s.lst i hl
      rw [isL_bls q] at hq
      exact ⟨_, cr_all hc, a, bs, rfl, hq, post_c s (.bl _) k⟩
theorem cd_any (hc : X.calm = true) : CallD X (.builtin "any") rAnyD := by
  intro O F A H σ Γ vs T M K ws ds s p h
  cases p with
  | nil => exact h.elim
  | @cons v d vs' ds' i t =>
    cases t with
    | cons _ _ => exact h.elim
    | nil =>
      obtain ⟨bs, hl, k⟩ := h
      obtain ⟨a, xs, rfl, hq, q⟩ := s.lst i hl
      rw [isL_bls q] at hq
      exact ⟨_, cr_any hc, a, bs, rfl, hq, post_c s (.bl _) k⟩
theorem cd_sum (hc : X.calm = true) : CallD X (.builtin "sum") rSumD := by
  intro O F A H σ Γ vs T M K ws ds s p h
  cases p with
  | nil => exact h.elim
  | @cons v d vs' ds' i t =>
    cases t with
    | cons _ _ => exact h.elim
    | nil =>
      obtain ⟨bs, hl, k⟩ := h
      obtain ⟨a, xs, rfl, hq, q⟩ := s.lst i hl
      rw [isL_ints q] at hq
      exact ⟨_, cr_sum hc, a, bs, rfl, hq, post_c s (.int _) k⟩
theorem cd_hex : CallD X (.type "int") rHex := by
  intro O F A H σ Γ vs T M K ws ds s p h
  match ds, p, h with
  | [.str l, .int 16], .cons r (.cons r2 .nil), ⟨h1, h2, h3, k⟩ =>
    rw [is_str r, is_int r2]
    exact ⟨_, call_int_hex, l, rfl, h1, h2, h3, post_c s (.int _) k⟩
end
end L3

namespace L3
open PySem PySem.Spec PyProof.Rows L2 Evl
open Classical

/-! ### where a sign stands -/
theorem at_one (a : List Nat) (c i : Nat) : StrLaws.At (SS a) (SS [c]) (SS a).length i ↔ a[i]? = some c := by
  unfold StrLaws.At
  rw [StrLaws.subAt_eq, len_SS, len_SS]
  show i + 1 ≤ a.length ∧ ((a.drop i).take 1 == [c]) = true ↔ _
  rw [beq_iff_eq]
  constructor
  · rintro ⟨h1, h2⟩
    have hi : i < a.length := by omega
    rw [List.drop_eq_getElem_cons hi] at h2
    have h2 : [a[i]] = [c] := h2
    rw [List.getElem?_eq_getElem hi]
    rw [List.cons.injEq] at h2
    rw [h2.1]
  · intro h
    obtain ⟨hi, e⟩ := List.getElem?_eq_some_iff.mp h
    refine ⟨by omega, ?_⟩
    rw [List.drop_eq_getElem_cons hi, e]
    rfl
/-- the last place of c -/
def rfC (c : Nat) : List Nat → Option Nat
  | [] => none
  | x :: r => match rfC c r with
    | some k => some (k + 1)
    | none => if x = c then some 0 else none
theorem rfC_none {c : Nat} : ∀ {a : List Nat}, rfC c a = none → ∀ k : Nat, a[k]? ≠ some c
  | [], _, k => by simp
  | y :: t, q, k => by
    have q : (match rfC c t with | some k => some (k + 1) | none => if y = c then some 0 else none) = none := q
    cases e2 : rfC c t with
    | some m => rw [e2] at q; cases q
    | none =>
      rw [e2] at q
      cases k with
      | zero =>
        intro z
        have z : y = c := by simpa using z
        rw [if_pos z] at q
        cases q
      | succ k => simpa using rfC_none e2 k
theorem rfC_some {c : Nat} : ∀ {a : List Nat} {i : Nat}, rfC c a = some i → a[i]? = some c ∧ ∀ k : Nat, i < k → a[k]? ≠ some c
  | [], i, h => by cases h
  | x :: r, i, h => by
    have h : (match rfC c r with | some k => some (k + 1) | none => if x = c then some 0 else none) = some i := h
    cases e : rfC c r with
    | some k =>
      rw [e] at h
      have h : k + 1 = i := Option.some.inj h
      subst h
      obtain ⟨h1, h2⟩ := rfC_some e
      refine ⟨by simpa using h1, fun j hj => ?_⟩
      obtain ⟨j, rfl⟩ : ∃ j', j = j' + 1 := ⟨j - 1, by omega⟩
      simpa using h2 j (by omega)
    | none =>
      rw [e] at h
      by_cases hx : x = c
      · rw [if_pos hx] at h
        have h : 0 = i := Option.some.inj h
        subst h
        refine ⟨by simp [hx], fun j hj => ?_⟩
        obtain ⟨j, rfl⟩ : ∃ j', j = j' + 1 := ⟨j - 1, by omega⟩
        simpa using rfC_none e j
      · rw [if_neg hx] at h
        cases h
def optI : Option Nat → Int
  | some i => (i : Nat)
  | none => -1
theorem rfind_SS (a : List Nat) (c : Nat) : Txt.rfind (SS a) (SS [c]) = optI (rfC c a) := by
  show (match Builtin.Str.lastOccurrence (SS a) (SS [c]) 0 (SS a).length with | some i => (i : Int) | none => -1) = _
  rcases StrLaws.last_spec (SS a) (SS [c]) with ⟨e, h⟩ | ⟨i, e, h1, h2⟩
  · rw [e]
    cases q : rfC c a with
    | none => rfl
    | some k => exact absurd ((at_one a c k).mpr (rfC_some q).1) (h k)
  · rw [e]
    have h1 := (at_one a c i).mp h1
    cases q : rfC c a with
    | none => exact absurd h1 (rfC_none q i)
    | some k =>
      obtain ⟨g1, g2⟩ := rfC_some q
      have hk : i = k := by
        rcases Nat.lt_trichotomy i k with z | z | z
        · exact absurd ((at_one a c k).mpr g1) (h2 k z)
        · exact z
        · exact absurd h1 (g2 i z)
      rw [hk]
      rfl
def mRfind : DM := fun a ds M K => match ds with
  | [.str [c]] => K (.int (optI (rfC c a))) M
  | _ => False
theorem md_rfind {X : Cx} : MtD X "str.rfind" mRfind := by
  intro O F A H σ Γ vs T M K ws ds a s ha p h
  match ds, p, h with
  | [.str [c]], .cons r .nil, k =>
    rw [is_str r]
    exact ⟨_, mt_rfind, SS a, SS [c], rfl, rfl, by rw [rfind_SS]; exact post_c s (.int _) k⟩
/-! ### names of the module: tables of texts by texts, classes -/
end L3

namespace L3
open PySem PySem.Spec PyProof.Rows L2 Evl
open Classical

/-! ### fields of instances -/
def lkD (f : Str) : List Str → List D → Option D
  | n :: ns, d :: l => if n = f then some d else lkD f ns l
  | _, _ => none
theorem lk_of {K : PySem.W.Frag} {mg : Str → Option Value} {A : List Addr} {F : Hp} {f : Str} : ∀ {fs : List (Str × V)} {l : List D} {d : D}, IsL K mg A F (fs.map (·.2)) l → lkD f (fs.map (·.1)) l = some d → ∃ v, fs.lookup f = some v ∧ Is K mg A F v d
  | [], _, _, .nil, h => by cases h
  | (n, v) :: fs, _ :: l, d, .cons r t, h => by
    have h : (if n = f then some _ else lkD f (fs.map (·.1)) l) = some d := h
    by_cases e : n = f
    · rw [if_pos e] at h
      cases h
      refine ⟨v, ?_, r⟩
      rw [List.lookup_cons]
      rw [show (f == n) = true from beq_iff_eq.mpr e.symm]
    · rw [if_neg e] at h
      obtain ⟨u, h1, h2⟩ := lk_of t h
      refine ⟨u, ?_, h2⟩
      rw [List.lookup_cons]
      rw [show (f == n) = false from beq_false_of_ne fun z => e z.symm]
      exact h1
/-- e.f -/
def dFld (c f : Str) (t : DE) : DE := fun Γ M K R => t Γ M (fun d M1 => match d with
  | .ob c' ns l => c' = c ∧ ∃ v, lkD f ns l = some v ∧ K v M1
  | .cel k => ∃ ns l v, M1[k]? = some (.ob c ns l) ∧ lkD f ns l = some v ∧ K v M1
  | _ => False) R
theorem is_ob {K : PySem.W.Frag} {mg : Str → Option Value} {A : List Addr} {F : Hp} {v : V} {c : Str} {ns : List Str} {l : List D} (h : Is K mg A F v (.ob c ns l)) : ∃ a C dx fs, v = .ref a ∧ mg c = some (.ref C) ∧ F a = some (.ins C dx fs) ∧ fs.map (·.1) = ns ∧ IsL K mg A F (fs.map (·.2)) l := by
  cases h with
  | ob hc h hn n p => exact ⟨_, _, _, _, rfl, hc, h, hn, isL_of (by simpa using n) p⟩
section
variable {X : Cx} {e o : Expr} {te to : DE} {c f : Str} {pos pos' : Pos}
theorem se_fld (hc : ∃ C, X.mg c = some (.ref C) ∧ Cls X.K C ∧ NoAttr X.K C f) (sa : SE X e te) (hb : attributeBase e f X.env (eval e X.env) = eval e X.env := by rfl) : SE X (.Attribute e f pos) (dFld c f te) := fun W tk O F A H σ Γ vs T M K R s lf h => by
  obtain ⟨C, hm, hC, hN⟩ := hc
  refine bE_of (pe_fld bE_ok hb) ?_
  refine bE_mono (sa W tk O F A H σ Γ vs T M _ R s lf h) fun v H1 ⟨d, M1, F1, A1, s1, k⟩ => ?_
  cases d with
  | ob c' ns l =>
    obtain ⟨rfl, u, hl, kk⟩ := k
    obtain ⟨a, C', dx, fs, rfl, hm', hF, hn, p⟩ := is_ob s1.top
    rw [hm] at hm'
    cases hm'
    subst hn
    obtain ⟨w, h1, h2⟩ := lk_of p hl
    exact ⟨a, C, dx, fs, w, rfl, s1.exH _ _ hF, hC, hN, h1, u, M1, F1, A1, s1.pop.push h2, kk⟩
  | cel j =>
    obtain ⟨ns, l, u, hM, hl, kk⟩ := k
    obtain ⟨a, rfl, ha⟩ := is_cel s1.top
    obtain ⟨hF, C', dx, fs, hm', hH, hn, p⟩ := s1.cells j a _ ha hM
    rw [hm] at hm'
    cases hm'
    subst hn
    obtain ⟨w, h1, h2⟩ := lk_of p hl
    exact ⟨a, C, dx, fs, w, rfl, hH, hC, hN, h1, u, M1, F1, A1, s1.pop.push h2, kk⟩
  | _ => exact k.elim
/-- a new field's value, or another one for it -/
def putD (f : Str) (d : D) : List Str → List D → List Str × List D
  | n :: ns, e :: l => if n = f then (n :: ns, d :: l) else let (a, b) := putD f d ns l; (n :: a, e :: b)
  | _, _ => ([f], [d])
theorem put_of {K : PySem.W.Frag} {mg : Str → Option Value} {A : List Addr} {F : Hp} {f : Str} {y : V} {d : D} (r : Is K mg A F y d) : ∀ {fs : List (Str × V)} {l : List D}, IsL K mg A F (fs.map (·.2)) l → (putF f y fs).map (·.1) = (putD f d (fs.map (·.1)) l).1 ∧ IsL K mg A F ((putF f y fs).map (·.2)) (putD f d (fs.map (·.1)) l).2
  | [], _, .nil => ⟨rfl, .cons r .nil⟩
  | (n, v) :: fs, e :: l, .cons q t => by
    by_cases h : n = f
    · have e1 : putF f y ((n, v) :: fs) = (n, y) :: fs := by
        show (if n = f then (n, y) :: fs else (n, v) :: putF f y fs) = _
        rw [if_pos h]
      have e2 : putD f d (n :: fs.map (·.1)) (e :: l) = (n :: fs.map (·.1), d :: l) := by
        show (if n = f then _ else _) = _
        rw [if_pos h]
      rw [e1]
      show _ = (putD f d (n :: fs.map (·.1)) (e :: l)).1 ∧ IsL K mg A F _ (putD f d (n :: fs.map (·.1)) (e :: l)).2
      rw [e2]
      exact ⟨rfl, .cons r t⟩
    · obtain ⟨h1, h2⟩ := put_of r t
      have e1 : putF f y ((n, v) :: fs) = (n, v) :: putF f y fs := by
        show (if n = f then (n, y) :: fs else (n, v) :: putF f y fs) = _
        rw [if_neg h]
      have e2 : putD f d (n :: fs.map (·.1)) (e :: l) = (n :: (putD f d (fs.map (·.1)) l).1, e :: (putD f d (fs.map (·.1)) l).2) := by
        show (if n = f then _ else _) = _
        rw [if_neg h]
      rw [e1]
      show _ = (putD f d (n :: fs.map (·.1)) (e :: l)).1 ∧ IsL K mg A F _ (putD f d (n :: fs.map (·.1)) (e :: l)).2
      rw [e2]
      exact ⟨by rw [← h1]; rfl, .cons q h2⟩
/-- o.f = e, o changing -/
def dSetF (c f : Str) (to te : DE) : DS := fun E Γ M => te Γ M (fun d M1 => to Γ M1 (fun o M2 => match o with
  | .cel k => ∃ ns l, M2[k]? = some (.ob c ns l) ∧ ns.length < 1000 ∧ E.nx Γ (M2.set k (.ob c (putD f d ns l).1 (putD f d ns l).2))
  | _ => False) E.rz) E.rz
theorem ss_setF (hc : ∃ C, X.mg c = some (.ref C) ∧ Cls X.K C ∧ NoAttr X.K C f) (so : SE X o to) (sa : SE X e te) (hs : swapsWith e (some (.Attribute o f pos')) pos.line X.env = pure false := by rfl) : SS' X (.Assign [.Attribute o f pos'] e pos) (dSetF c f to te) := fun W tk O F A H σ Γ vs T M E s lf h => by
  obtain ⟨C, hm, hC, hN⟩ := hc
  refine bS_of (ps_fld bE_ok bE_ok hs) ?_
  refine bE_mono (sa W tk O F A H σ Γ vs T M _ _ s lf h) fun y H1 ⟨d, M1, F1, A1, s1, k1⟩ => ?_
  refine bE_mono (so W tk O F1 A1 H1 σ Γ _ _ M1 _ _ s1 lf.pop k1) fun ov H2 ⟨od, M2, F2, A2, s2, k⟩ => ?_
  have i1 := s2.pop.top
  have i2 := s2.top
  have s := s2.pop.pop
  cases od with
  | cel j =>
    obtain ⟨ns, l, hM, hl, kk⟩ := k
    obtain ⟨a, rfl, ha⟩ := is_cel i2
    obtain ⟨hF, C', dx, fs, hm', hH, hn, p⟩ := s.cells j a _ ha hM
    rw [hm] at hm'
    cases hm'
    subst hn
    obtain ⟨g1, g2⟩ := put_of (f := f) i1 p
    refine ⟨a, C, dx, fs, rfl, hH, hC, hN, by simpa using hl, Γ, _, F2, A2, ?_, kk⟩
    exact s.mut (o := .ins C dx (putF f y fs)) ha hF ⟨hF, C, dx, putF f y fs, hm, upd_same, g1, g2⟩
  | _ => exact k.elim
end
/-! ### instances made -/
def cMk (c : Str) (S : DSpec) (ds : List D) (M : MM) (K : Kd) : Prop := (∀ d ∈ ds, Gr d) ∧ S (.cel 0 :: ds) [.ob c [] []] (fun d Mc => d = .non ∧ ∃ ns l, Mc = [.ob c ns l] ∧ (∀ d ∈ l, Gr d) ∧ K (.ob c ns l) M) (fun _ _ => False)
def dMk (c : Str) (S : DSpec) (dv : List D) (t : DA) : DE := fun Γ M K R => t Γ M (fun ds M1 => cMk c S (ds ++ dv) M1 K) R
structure FM (P : Program) (w : World) (K : PySem.W.Frag) (mg : Str → Option Value) (base : Heap) (c : Str) (k : Nat) (S : DSpec) (dv : List D) : Prop where
  ex : ∃ C f fd ps dV dvs, Mk K C f ∧ FnOk P w K mg base (L2.CX P w) k f fd ps (spOf K mg S) ∧ mg c = some (.ref C) ∧ Binds K fd ps dV ∧ Vals dvs dV ∧ ∀ A F, IsL K mg A F dvs dv
section
variable {X : Cx} {O : Org} {F : Hp} {A : List Addr} {H : Hp} {σ : L2.St} {Γ : G} {vs : List V} {T : List D} {M : MM}
theorem sp_mk {c : Str} {S : DSpec} {C : Addr} {K : Kd} {ws : List V} {ds : List D} (s : StOk X O F A H σ Γ vs T M) (p : IsL X.K X.mg A F ws ds) (hm : X.mg c = some (.ref C)) (h : cMk c S ds M K) {x dx : Addr} (hx : H x = none) (hd : H dx = none) (hne : dx ≠ x) :
    spOf X.K X.mg S (.ref x :: ws) (upd (upd H dx (.own x)) x (.ins C dx [])) (fun v H2 => v = .non ∧ Post X O σ Γ vs T K (.ref x) H2) L2.E0 := by
  obtain ⟨g, h⟩ := h
  have fx : F x = none := fresh_back s.exH hx
  have fdx : F dx = none := fresh_back s.exH hd
  have old : ∀ b o, H b = some o → (upd (upd H dx (.own x)) x (.ins C dx [])) b = some o := fun b o e => by
    rw [upd_ne (ne_of_none e hx), upd_ne (ne_of_none e hd)]
    exact e
  refine ⟨F, [x], [.ob c [] []], .cel 0 :: ds, _, _, ⟨fun b o e => old b o (s.exH b o e), by simp, fun b hb => ?_, rfl, fun j b m e1 e2 => ?_⟩, .cons (.cel rfl) (p.gr g), h, ?_, ?_⟩
  · have e : b = x := by simpa using hb
    rw [e, upd_same]
    simp
  · cases j with
    | zero =>
      have e1 : x = b := by simpa using e1
      have e2 : MO.ob c [] [] = m := by simpa using e2
      subst e1; subst e2
      exact ⟨fx, C, dx, [], hm, upd_same, rfl, .nil⟩
    | succ j => simp at e1
  · rintro d Mc ⟨rfl, ns, l, rfl, gl, k⟩ v F' A' H' wt m' is
    obtain ⟨q, rfl⟩ := len1 m'
    have e : x = q := by
      have := wt.pre
      simpa using this
    subst e
    refine ⟨is_non is, ?_⟩
    obtain ⟨hF', C', dx', fs, hm', hH', hn, pp⟩ := m'.cells 0 x _ rfl rfl
    have ex : Ex F' (upd F' x (.ins C' dx' fs)) := Ex.new hF'
    have wt0 : Went F [] H (upd F' x (.ins C' dx' fs)) [] H' := ⟨wt.exF.trans ex, List.prefix_refl _, fun b o _ e => wt.keep b o (fun z => by
      have z : b = x := by simpa using z
      rw [z, hx] at e
      cases e) (old b o e), fun b h => (nomatch h), fun b o e => by
      by_cases z : b = x
      · exact .inr (.inl (by rw [z]; exact hx))
      · rw [upd_ne z] at e
        rcases wt.nw b o e with h | h | h
        · exact .inl h
        · refine .inr (.inl ?_)
          cases q : H b with
          | none => rfl
          | some u =>
            rw [old b u q] at h
            cases h
        · exact absurd (by simpa using h) z⟩
    have mm : Mem X.K X.mg (upd F' x (.ins C' dx' fs)) [] H' [] := ⟨fun b o e => by
      by_cases z : b = x
      · subst z
        rw [upd_same] at e
        rw [hH', e]
      · rw [upd_ne z] at e
        exact m'.ex b o e, List.nodup_nil, fun b h => (nomatch h), rfl, fun k b m h => by simp at h⟩
    have s2 := s.after0 wt0 mm
    have io : Is X.K X.mg A (upd F' x (.ins C' dx' fs)) (.ref x) (.ob c ns l) := by
      have pl : IsL X.K X.mg A (upd F' x (.ins C' dx' fs)) (fs.map (·.2)) l := (pp.gr gl).mono ex (List.prefix_refl _)
      exact .ob hm' upd_same hn (by have := pl.len; simpa using this) pl.get
    exact ⟨.ob c ns l, M, _, A, s2.push io, k⟩
  · rintro x' M' hf
    exact hf.elim
variable {k : Nat} {S : DSpec} {c : Str} {dv : List D} {t : DA} {e : Expr} {es : List Expr} {p pos : Pos}
theorem se_mk (h : FM X.prog X.w X.K X.mg X.base c k S dv) (hr : Room (k + 1) X.A) (sa : SA X (e :: es) t) (hg : Gl X c := by rfl) (hdb : (c == ("__debug__" : Str)) = false := by decide) (he : starEach (e :: es) X.env = (false, eval e X.env) :: starEach es X.env := by rfl)
    (hpl : (backTo pos (starEach es X.env)).any (·.1) = false := by rfl) : SE X (.Call (.Name c p) (e :: es) [] pos) (dMk c S dv t) := fun W tk O F A H σ Γ vs T M K R s lf hh => by
  obtain ⟨C, f, fd, ps, dV, dvs, mk, Fn, hm, b, vl, i⟩ := h.ex
  refine bE_of (pe_make (E := L2.E0) mk Fn hr hg hm b vl passL bA_ok hdb he hpl) (bA_mono (sa W tk O F A H σ Γ vs T M _ R s lf hh) fun ws H1 ⟨ds, M1, F1, A1, s1, q, k⟩ => ?_)
  intro x dx hx hd hne
  exact sp_mk s1 (Paired.app q (i _ _)) hm k hx hd hne
end
end L3

namespace L3
open PySem PySem.Spec PyProof.Rows L2 Evl
open Classical

/-! ### properties, methods -/
/-- what a def asks of frozen data, no exception let out -/
def cQ (S : DSpec) (ds : List D) (M : MM) (K : Kd) : Prop := (∀ d ∈ ds, Gr d) ∧ S ds [] (fun d Mc => Mc = [] ∧ K d M) (fun _ _ => False)
structure FP (P : Program) (w : World) (K : PySem.W.Frag) (mg : Str → Option Value) (base : Heap) (c f : Str) (k : Nat) (S : DSpec) : Prop where
  ex : ∃ C p g fd ps, mg c = some (.ref C) ∧ Cls K C ∧ PropOf K C f p g ∧ FnOk P w K mg base (L2.CX P w) k g fd ps (spOf K mg S) ∧ Binds K fd ps []
structure FMe (P : Program) (w : World) (K : PySem.W.Frag) (mg : Str → Option Value) (base : Heap) (c m : Str) (k : Nat) (S : DSpec) (dv : List D) : Prop where
  ex : ∃ C f fd ps dV dvs, mg c = some (.ref C) ∧ Cls K C ∧ Meth K C m f ∧ FnOk P w K mg base (L2.CX P w) k f fd ps (spOf K mg S) ∧ Binds K fd ps dV ∧ Vals dvs dV ∧ ∀ A F, IsL K mg A F dvs dv
/-- e.f, f a property -/
def dProp (c : Str) (S : DSpec) (t : DE) : DE := fun Γ M K R => t Γ M (fun d M1 => (∃ ns l, d = .ob c ns l) ∧ cQ S [d] M1 K) R
/-- o.m(..) -/
def dMeth (c m : Str) (S : DSpec) (dv : List D) (to : DE) (t : DA) : DE := fun Γ M K R => to Γ M (fun d M1 => (∃ ns l, d = .ob c ns l ∧ m ∉ ns) ∧ t Γ M1 (fun ds M2 => cQ S (d :: (ds ++ dv)) M2 K) R) R
theorem lookup_none {m : Str} : ∀ {fs : List (Str × V)}, m ∉ fs.map (·.1) → fs.lookup m = none
  | [], _ => rfl
  | (n, v) :: fs, h => by
    have h1 : ¬ m = n := fun z => h (by rw [z]; exact List.mem_cons_self)
    rw [List.lookup_cons, show (m == n) = false from beq_false_of_ne h1]
    exact lookup_none fun z => h (List.mem_cons_of_mem _ z)
section
variable {X : Cx} {O : Org} {F : Hp} {A : List Addr} {H : Hp} {σ : L2.St} {Γ : G} {vs : List V} {T : List D} {M : MM}
theorem sp_q {S : DSpec} {K : Kd} {ws : List V} {ds : List D} (s : StOk X O F A H σ Γ vs T M) (p : IsL X.K X.mg A F ws ds) (h : cQ S ds M K) : spOf X.K X.mg S ws H (Post X O σ Γ vs T K) L2.E0 := by
  obtain ⟨g, h⟩ := h
  refine ⟨F, [], [], ds, _, _, s.mem0, p.gr g, h, ?_, fun _ _ h => h.elim⟩
  rintro d Mc ⟨rfl, k⟩ v F' A' H' w m i
  obtain rfl := len0 m
  exact ⟨d, M, F', A, (s.after0 w m).push (i.mono (Ex.refl _) (List.nil_prefix)), k⟩
variable {k : Nat} {S : DSpec} {c f m : Str} {dv : List D} {t : DA} {te to : DE} {e o : Expr} {es : List Expr} {p pos apos : Pos}
theorem se_prop (h : FP X.prog X.w X.K X.mg X.base c f k S) (hr : Room (k + 1) X.A) (sa : SE X e te) (hab : attributeBase e f X.env (eval e X.env) = eval e X.env := by rfl) : SE X (.Attribute e f pos) (dProp c S te) := fun W tk O F A H σ Γ vs T M K R s lf hh => by
  obtain ⟨C, p, g, fd, ps, hm, hc, hp, Fn, b⟩ := h.ex
  refine bE_of (pe_prop (E := L2.E0) bE_ok hc hp Fn hr b .nil (passL (X := X.nox)) hab) ?_
  refine bE_mono (sa W tk O F A H σ Γ vs T M _ R s lf hh) fun v H1 ⟨d, M1, F1, A1, s1, ⟨ns, l, e⟩, k⟩ => ?_
  subst e
  have i := s1.top
  obtain ⟨a, C', dx, fs, rfl, hm', hF, hn, q⟩ := is_ob i
  rw [hm] at hm'
  cases hm'
  exact ⟨a, dx, fs, rfl, s1.exH _ _ hF, sp_q s1.pop (.cons i .nil) k⟩
theorem se_meth {pl : Sem Bool} (h : FMe X.prog X.w X.K X.mg X.base c m k S dv) (hr : Room k X.A) (so : SE X o to) (sa : SA X (e :: es) t) (hst : starEach (e :: es) X.env = (false, eval e X.env) :: starEach es X.env := by rfl) (hpl : (backTo pos (starEach es X.env)).any (·.1) = false := by rfl)
    (ht : eval (.Call (.Attribute o m apos) (e :: es) [] pos) X.env = (do
      let ov ← eval o X.env
      standAt apos.atName
      let (f, first) ← holding [ov] (getMethod ov m pl)
      callWith pos f first (backTo pos (starEach (e :: es) X.env)) (backToKw pos (keywordEach [] X.env))) := by rfl) : SE X (.Call (.Attribute o m apos) (e :: es) [] pos) (dMeth c m S dv to t) := fun W tk O F A H σ Γ vs T M K R s lf hh => by
  obtain ⟨C, f, fd, ps, dV, dvs, hm, hc, hme, Fn, b, vl, i⟩ := h.ex
  refine bE_of (pe_meth (E := L2.E0) bE_ok hc hme Fn hr b vl passL bA_ok hst hpl ht) ?_
  refine bE_mono (so W tk O F A H σ Γ vs T M _ R s lf hh) fun v H1 ⟨d, M1, F1, A1, s1, ⟨ns, l, e, hnm⟩, k⟩ => ?_
  subst e
  obtain ⟨a, C', dx, fs, rfl, hm', hF, hn, q⟩ := is_ob s1.top
  rw [hm] at hm'
  cases hm'
  subst hn
  refine ⟨a, dx, fs, rfl, s1.exH _ _ hF, lookup_none hnm, ?_⟩
  refine bA_mono (sa W tk O F1 A1 H1 σ Γ (.ref a :: vs) (_ :: T) M1 _ R s1 lf.pop k) fun ws H2 ⟨ds, M2, F2, A2, s2, q2, k2⟩ => ?_
  exact sp_q s2.pop (.cons s2.top (Paired.app q2 (i _ _))) k2
theorem se_meth0 {pl : Sem Bool} (h : FMe X.prog X.w X.K X.mg X.base c m k S dv) (hr : Room k X.A) (so : SE X o to)
    (ht : eval (.Call (.Attribute o m apos) [] [] pos) X.env = (do
      let ov ← eval o X.env
      standAt apos.atName
      let (f, first) ← holding [ov] (getMethod ov m pl)
      callWith pos f first (backTo pos (starEach [] X.env)) (backToKw pos (keywordEach [] X.env))) := by rfl) : SE X (.Call (.Attribute o m apos) [] [] pos) (dMeth c m S dv to aNil) := fun W tk O F A H σ Γ vs T M K R s lf hh => by
  obtain ⟨C, f, fd, ps, dV, dvs, hm, hc, hme, Fn, b, vl, i⟩ := h.ex
  refine bE_of (pe_meth0 (E := L2.E0) bE_ok hc hme Fn hr b vl passL ht) ?_
  refine bE_mono (so W tk O F A H σ Γ vs T M _ R s lf hh) fun v H1 ⟨d, M1, F1, A1, s1, ⟨ns, l, e, hnm⟩, k⟩ => ?_
  subst e
  have io := s1.top
  obtain ⟨a, C', dx, fs, rfl, hm', hF, hn, q⟩ := is_ob io
  rw [hm] at hm'
  cases hm'
  subst hn
  exact ⟨a, dx, fs, rfl, s1.exH _ _ hF, lookup_none hnm, sp_q s1.pop (.cons io (i _ _)) k⟩
end
end L3

namespace L3
open PySem PySem.Spec PyProof.Rows L2 Evl
open Classical

/-! ### own operators -/
section
variable {prog : Program} {w : World} {A : Around} {E : Value → Shared → Prop} {s : Shared} {K : PySem.W.Frag} {x C f : Addr} {ox : Obj} {od : Option Obj}
theorem binop_in {op : Operator} {b : Value} {Q : Value → Shared → Prop} (X : K.In s.heap) (I : PySem.W.InstAt s.heap x ox C od) (hb : PySem.W.Looks (model prog w) s.heap (typeOf b) (.ref C)) (hc : PySem.W.selfFirst K C = true)
    (hs : PySem.W.findIn K (.ref C) (PySem.dunder op.info.2) = some (some (.ref f))) (hf : PySem.W.isFn K (.ref f) = true)
    (h : wpAny (model prog w) A (call (.ref f) [.ref x, b]) (PySem.W.CmpBack Q) E s) : wpAny (model prog w) A (binaryOp op (.ref x) b) Q E s := by
  obtain ⟨cd, hcd, hm⟩ := PySem.W.any_some hc
  obtain ⟨rest, hm⟩ : ∃ rest, cd.mro = .ref C :: rest := by
    cases q : cd.mro with
    | nil => rw [q] at hm; cases hm
    | cons a r => rw [q] at hm; exact ⟨r, by rw [List.head?_cons] at hm; cases (beq_iff_eq.mp hm); rfl⟩
  unfold binaryOp
  refine wpAny_holding (wpAny_bind ?_)
  unfold binaryOp1
  refine wpAny_bind (I.type.here (wpAny_bind (hb.here (wpAny_bind ((PySem.W.fills_K X hcd hm hs).here ?_)))))
  simp only [beq_self_eq_true, if_true]
  refine wpAny_bind (wpAny_pure ?_)
  simp only [Bool.and_false, Bool.false_eq_true, if_false, Bool.false_and]
  refine wpAny_bind (wpAny_pure ?_)
  simp only [Bool.false_eq_true, if_false]
  refine wpAny_bind (m := tryMethod (.ref x) _ b) ?_
  unfold tryMethod
  refine wpAny_bind (PySem.W.special_fn X I hs (beq_iff_eq.mp hf) (wpAny_mono h (fun v s' hv => ?_) fun _ _ e => e))
  cases v <;> first | exact hv.elim | exact wpAny_pure (wpAny_pure (wpAny_pure hv))
end
structure FOp (P : Program) (w : World) (K : PySem.W.Frag) (mg : Str → Option Value) (base : Heap) (c : Str) (op : Operator) (k : Nat) (S : DSpec) : Prop where
  ex : ∃ C f fd ps, mg c = some (.ref C) ∧ PySem.W.selfFirst K C = true ∧ Meth K C (PySem.dunder op.info.2) f ∧ FnOk P w K mg base (L2.CX P w) k f fd ps (spOf K mg S) ∧ Binds K fd ps []
def rOwn (c : Str) (S : DSpec) : DO2 := fun x y M K => (∃ ns l, x = .ob c ns l) ∧ (∃ ns l, y = .ob c ns l) ∧ cQ S [x, y] M K
theorem cmpBack {X : Cx} {pins : List (Addr × Obj)} {σ : L2.St} {Q : VK} {v : Value} {s : Shared} (h : EP X pins σ Q v s) : PySem.W.CmpBack (EP X pins σ Q) v s := by
  obtain ⟨x, H', I, r, q⟩ := h
  cases v with
  | notImplemented => cases x <;> first | exact (nomatch (show Value.notImplemented = _ from r)) | (obtain ⟨t, r⟩ := r; cases r) | cases r
  | _ => exact ⟨x, H', I, r, q⟩
theorem opd_own {X : Cx} {c : Str} {op : Operator} {k : Nat} {S : DSpec} (h : FOp X.prog X.w X.K X.mg X.base c op k S) (hr : Room k X.A) : OpD X (binaryOp op) (rOwn c S) := by
  intro O F A H σ Γ vs T M K v1 v2 d1 d2 s i1 i2 ⟨⟨ns, l, e1⟩, ⟨ns2, l2, e2⟩, hq⟩
  subst e1; subst e2
  obtain ⟨C, f, fd, ps, hm, hc, hme, Fn, b⟩ := h.ex
  obtain ⟨a, C1, dx, fs, rfl, hm1, hF1, _, _⟩ := is_ob i1
  obtain ⟨a2, C2, dx2, fs2, rfl, hm2, hF2, _, _⟩ := is_ob i2
  rw [hm] at hm1 hm2
  cases hm1; cases hm2
  refine ⟨fun pins st σ' v u I r1 r2 => ?_⟩
  obtain rfl : v = Value.ref a := r1
  obtain rfl : u = Value.ref a2 := r2
  obtain ⟨mA, OA, _⟩ := ins_get I.hok (s.exH _ _ hF1)
  obtain ⟨mB, OB, _⟩ := ins_get I.hok (s.exH _ _ hF2)
  obtain ⟨od, IA, _⟩ := OA.look
  obtain ⟨od2, IB, _⟩ := OB.look
  refine binop_in I.kIn IA IB.type hc hme.at_ hme.fn ?_
  refine thn (run_fn (E := L2.E0) (us := [.ref a, .ref a2]) (vs := [.ref a, .ref a2]) Fn hr b .nil passL I (.cons rfl (.cons rfl .nil)) (sp_q s (.cons i1 (.cons i2 .nil)) hq)) fun r s' hr' => cmpBack hr'
end L3

namespace L3
open PySem PySem.Spec PyProof.Rows L2 Evl
open Classical

/-! ### the first place of a sign -/
def fiC (c : Nat) : List Nat → Option Nat
  | [] => none
  | x :: r => if x = c then some 0 else match fiC c r with
    | some k => some (k + 1)
    | none => none
theorem fiC_some {c : Nat} : ∀ {a : List Nat} {i : Nat}, fiC c a = some i → a[i]? = some c ∧ ∀ k : Nat, k < i → a[k]? ≠ some c
  | [], i, h => by cases h
  | x :: r, i, h => by
    have h : (if x = c then some 0 else match fiC c r with | some k => some (k + 1) | none => none) = some i := h
    by_cases hx : x = c
    · rw [if_pos hx] at h
      have h : 0 = i := Option.some.inj h
      subst h
      exact ⟨by simp [hx], fun k hk => absurd hk (Nat.not_lt_zero k)⟩
    · rw [if_neg hx] at h
      cases e : fiC c r with
      | none => rw [e] at h; cases h
      | some k =>
        rw [e] at h
        have h : k + 1 = i := Option.some.inj h
        subst h
        obtain ⟨h1, h2⟩ := fiC_some e
        refine ⟨by simpa using h1, fun j hj => ?_⟩
        cases j with
        | zero => simpa using hx
        | succ j => simpa using h2 j (by omega)
def mIndex : DM := fun a ds M K => match ds with
  | [.str [c]] => ∃ i, fiC c a = some i ∧ K (.int (i : Nat)) M
  | _ => False
theorem occ_SS {a : List Nat} {c i : Nat} (h : fiC c a = some i) : ∃ rest, Builtin.Str.occurrences (SS a) (SS [c]) 0 (SS a).length 1 = i :: rest := by
  obtain ⟨h1, h2⟩ := fiC_some h
  have hA := (at_one a c i).mpr h1
  have q := StrLaws.occ_head (SS a) (SS [c]) 1 (Nat.le_refl _)
  rcases q with ⟨e, hn⟩ | ⟨j, rest, e, hj, hm⟩
  · exact absurd hA (hn i)
  · have hj' := (at_one a c j).mp hj
    have : j = i := by
      rcases Nat.lt_trichotomy j i with z | z | z
      · exact absurd hj' (h2 j z)
      · exact z
      · exact absurd hA (hm i z)
    subst this
    exact ⟨rest, e⟩
theorem md_index {X : Cx} : MtD X "str.index" mIndex := by
  intro O F A H σ Γ vs T M K ws ds a s ha p h
  match ds, p, h with
  | [.str [c]], .cons r .nil, ⟨i, hi, k⟩ =>
    obtain ⟨rest, e⟩ := occ_SS hi
    rw [is_str r]
    exact ⟨_, mt_sindex, SS a, SS [c], i, rest, rfl, rfl, e, post_c s (.int _) k⟩
/-! ### a chain as a test -/
theorem st_chain {X : Cx} {a b c : Expr} {ta tb tc : DE} {pos : Pos} {op op' : CmpOp} {r r' : DO2} (hi : IsB r) (hi' : IsB r') (ho : OpD X (compareOp op) r) (ho' : OpD X (compareOp op') r') (sa : SE X a ta) (sb : SE X b tb) (sc : SE X c tc) (hm : lastMarks [op, op'] [b, c] = false := by with_unfolding_all rfl) :
    ST X (.Compare a [op, op'] [b, c] pos) (qTru (dChain r r' ta tb tc)) := fun W tk O F A H σ Γ vs T M K R s lf h => by
  refine bT_of (pt_chain bO_ok bO_ok bE_ok bE_ok bE_ok hm) ?_
  refine bE_mono (sa W tk O F A H σ Γ vs T M _ R s lf h) fun v1 H1 ⟨d1, M1, F1, A1, s1, h1⟩ => ?_
  refine bE_mono (sb W tk O F1 A1 H1 σ Γ (v1 :: vs) (d1 :: T) M1 _ R s1 lf.pop h1) fun v2 H2 ⟨d2, M2, F2, A2, s2, h2⟩ => ?_
  have i1 := s2.pop.top
  have i2 := s2.top
  refine bO_mono (ho O F2 A2 H2 σ Γ (v2 :: vs) (d2 :: T) M2 _ v1 v2 d1 d2 (s2.pop.pop.push i2) i1 i2 h2) fun v3 H3 ⟨d3, M3, F3, A3, s3, k, e, hk⟩ => ?_
  subst e
  refine ⟨k, is_bl s3.top, ?_⟩
  cases k with
  | true =>
    refine bE_mono (sc W tk O F3 A3 H3 σ Γ (v2 :: vs) (d2 :: T) M3 _ R s3.pop lf.pop hk) fun v4 H4 ⟨d4, M4, F4, A4, s4, h4⟩ => ?_
    refine bO_mono (ho' O F4 A4 H4 σ Γ vs T M4 _ v2 v4 d2 d4 s4.pop.pop s4.pop.top s4.top (hi' _ _ _ _ h4)) fun v5 H5 ⟨d5, M5, F5, A5, s5, ⟨b, e5⟩, c', hc', kk⟩ => ?_
    subst e5
    have e2 : c' = b := (Option.some.inj hc').symm
    subst e2
    exact ⟨c', is_bl s5.top, M5, F5, A5, s5.pop, kk⟩
  | false =>
    obtain ⟨b, hb, kk⟩ := hk
    have e2 : b = false := (Option.some.inj hb).symm
    subst e2
    exact ⟨false, rfl, M3, F3, A3, s3.pop.pop, kk⟩
end L3

namespace L3
open PySem PySem.Spec PyProof.Rows L2 Evl
open Classical

/-! ### comprehensions and loops by typed items -/
section
variable {α β : Type} {chk : MM → Prop} {tg : Tgt} {tt : DT} {te : DE} {Γw : G} {K : Kd} {M : MM}
theorem comp_fm {enc : α → D} {p : α → Bool} {g : α → D} (xs : List α) (hc : chk M) (hl : xs.length ≤ 16777216)
    (h1 : ∀ x ∈ xs, ∀ (Y : Kd) (Z : MM → Prop), (p x = true → Y (g x) M) → (p x = false → Z M) → tg.d (enc x) Γw fun Γ' => tt Γ' M (fun b M1 => if b = true then te Γ' M1 Y (fun _ _ _ => False) else Z M1) (fun _ _ _ => False))
    (k : K (.ls ((xs.filter p).map g)) M) : compD chk tg tt te Γw K (xs.map enc) [] M := by
  refine comp_ind (P := fun r acc M' => ∃ a b, r = b.map enc ∧ acc = (a.filter p).map g ∧ M' = M ∧ a ++ b = xs) ?_ ?_ _ _ _ ⟨[], xs, rfl, rfl, rfl, rfl⟩
  · rintro acc M' ⟨a, b, e, rfl, rfl, h⟩
    have hb : b = [] := by simpa using e.symm
    subst hb
    rw [List.append_nil] at h
    subst h
    exact ⟨hc, k⟩
  · rintro d r acc M' N hN ⟨a, b, e, rfl, rfl, h⟩
    cases b with
    | nil => cases e
    | cons x b =>
      cases e
      refine ⟨hc, h1 x (by rw [← h]; simp) _ _ (fun hp => ⟨?_, hN _ _ ⟨a ++ [x], b, rfl, by simp [List.filter_append, hp], rfl, by simpa using h⟩⟩) fun hp => hN _ _ ⟨a ++ [x], b, rfl, by simp [List.filter_append, hp], rfl, by simpa using h⟩⟩
      have h1 := List.length_filter_le p a
      have h2 := congrArg List.length h
      rw [List.length_append, List.length_cons] at h2
      rw [List.length_map]
      omega
theorem comp_map {enc : α → D} {g : α → D} (xs : List α) (hc : chk M) (hl : xs.length ≤ 16777216)
    (h1 : ∀ x ∈ xs, ∀ Y : Kd, Y (g x) M → tg.d (enc x) Γw fun Γ' => te Γ' M Y (fun _ _ _ => False))
    (k : K (.ls (xs.map g)) M) : compD chk tg qYes te Γw K (xs.map enc) [] M := by
  refine comp_fm (p := fun _ => true) (g := g) xs hc hl (fun x hx Y Z h _ => h1 x hx Y (h rfl)) ?_
  have e : xs.filter (fun _ => true) = xs := List.filter_eq_self.mpr fun _ _ => rfl
  rw [e]
  exact k
/-- items drawn: what each is, and the memory, is known by a word alone -/
theorem comp_draw {K : Kd} {M : MM} {enc : α → D} {enc2 : β → D} {Good : β → Prop} {I : MM → Prop} (xs : List α) (hc : ∀ M, I M → chk M) (hl : xs.length ≤ 16777216) (hI : I M)
    (h1 : ∀ x ∈ xs, ∀ M, I M → ∀ Y : Kd, (∀ y M', I M' → Good y → Y (enc2 y) M') → tg.d (enc x) Γw fun Γ' => te Γ' M Y (fun _ _ _ => False))
    (k : ∀ (ys : List β) M', I M' → ys.length = xs.length → (∀ y ∈ ys, Good y) → K (.ls (ys.map enc2)) M') : compD chk tg qYes te Γw K (xs.map enc) [] M := by
  refine comp_ind (P := fun r acc M' => ∃ a b ys, r = b.map enc ∧ acc = ys.map enc2 ∧ I M' ∧ a ++ b = xs ∧ ys.length = a.length ∧ ∀ y ∈ ys, Good y) ?_ ?_ _ _ _ ⟨[], xs, [], rfl, rfl, hI, rfl, rfl, fun _ h => nomatch h⟩
  · rintro acc M' ⟨a, b, ys, e, rfl, hI, h, hy, hg⟩
    have hb : b = [] := by simpa using e.symm
    subst hb
    rw [List.append_nil] at h
    subst h
    exact ⟨hc _ hI, k ys M' hI hy hg⟩
  · rintro d r acc M' N hN ⟨a, b, ys, e, rfl, hI, h, hy, hg⟩
    cases b with
    | nil => cases e
    | cons x b =>
      cases e
      refine ⟨hc _ hI, h1 x (by rw [← h]; simp) _ hI _ fun y M2 hI2 gy => ⟨?_, hN _ _ ⟨a ++ [x], b, ys ++ [y], rfl, by simp, hI2, by simpa using h, by simp [hy], fun z hz => ?_⟩⟩⟩
      · have h2 := congrArg List.length h
        rw [List.length_append, List.length_cons] at h2
        rw [List.length_map]
        omega
      · rcases List.mem_append.mp hz with q | q
        · exact hg z q
        · rw [List.mem_singleton.mp q]; exact gy
theorem for_indL {body : DS} {E : DEnds} {enc : α → D} {P : List α → List α → G → MM → Prop} (xs : List α) {Γ : G} (h0 : ∀ Γ M, P xs [] Γ M → chk M ∧ E.nx Γ M)
    (h1 : ∀ a x b Γ M (N : G → MM → Prop), a ++ x :: b = xs → (∀ Γ' M', P (a ++ [x]) b Γ' M' → N Γ' M') → P a (x :: b) Γ M → chk M ∧ tg.d (enc x) Γ fun Γ' => body { E with nx := N, ct := N, bk := E.nx } Γ' M)
    (s : P [] xs Γ M) : forD chk tg body E (xs.map enc) Γ M := by
  refine for_ind (P := fun r Γ M => ∃ a b, r = b.map enc ∧ a ++ b = xs ∧ P a b Γ M) ?_ ?_ _ _ _ ⟨[], xs, rfl, rfl, s⟩
  · rintro Γ M ⟨a, b, e, h, p⟩
    have hb : b = [] := by simpa using e.symm
    subst hb
    rw [List.append_nil] at h
    subst h
    exact h0 Γ M p
  · rintro d r Γ M N hN ⟨a, b, e, h, p⟩
    cases b with
    | nil => cases e
    | cons x b =>
      cases e
      exact h1 a x b Γ M N h (fun Γ' M' q => hN _ _ ⟨a ++ [x], b, rfl, by simpa using h, q⟩) p
end
theorem pick {l : List D} {x : Int} {Q : D → Prop} (h0 : 0 ≤ x) (h1 : x < l.length) (h : ∀ d ∈ l, Q d) : ∃ d, L2.atI l x = some d ∧ Q d := by
  obtain ⟨n, rfl⟩ : ∃ n : Nat, x = n := ⟨x.toNat, by omega⟩
  have hn : n < l.length := by omega
  exact ⟨l[n], by rw [atI_nat]; exact List.getElem?_eq_getElem hn, h _ (List.getElem_mem hn)⟩
theorem pickS {l : List Nat} {x : Int} {Q : Nat → Prop} (h0 : 0 ≤ x) (h1 : x < l.length) (h : ∀ d ∈ l, Q d) : ∃ d, L2.atI l x = some d ∧ Q d := by
  obtain ⟨n, rfl⟩ : ∃ n : Nat, x = n := ⟨x.toNat, by omega⟩
  have hn : n < l.length := by omega
  exact ⟨l[n], by rw [atI_nat]; exact List.getElem?_eq_getElem hn, h _ (List.getElem_mem hn)⟩

/-! ### equality of typed data -/
structure EqOk {α : Type} (k : Nat) (enc : α → D) : Prop where
  pl : ∀ (n : Nat), k ≤ n → ∀ a, Pl n (enc a)
  nr : ∀ (n : Nat), k ≤ n → ∀ a b, nrm n (enc a) = nrm n (enc b) → a = b
  nc : ∀ a j, enc a ≠ .cel j
theorem eq_s : EqOk 0 D.str := ⟨fun n _ a => by rw [pl_str]; trivial, fun n _ a b h => by rw [nrm_str, nrm_str] at h; exact D.str.inj h, fun _ _ h => nomatch h⟩
theorem eq_i : EqOk 0 D.int := ⟨fun n _ a => by rw [pl_int]; trivial, fun n _ a b h => by rw [nrm_int, nrm_int] at h; exact D.int.inj h, fun _ _ h => nomatch h⟩
theorem eq_n : EqOk 0 (fun a : Nat => D.int (a : Nat)) := ⟨fun n _ a => by rw [pl_int]; trivial, fun n _ a b h => by rw [nrm_int, nrm_int] at h; have := D.int.inj h; omega, fun _ _ h => nomatch h⟩
theorem eq_ls {α : Type} {k : Nat} {enc : α → D} (h : EqOk k enc) : EqOk (k + 1) fun l : List α => .ls (l.map enc) := ⟨fun n hn a => by
    obtain ⟨n, rfl⟩ : ∃ m, n = m + 1 := ⟨n - 1, by omega⟩
    rw [pl_ls]
    intro d hd
    obtain ⟨x, _, rfl⟩ := List.mem_map.mp hd
    exact h.pl n (by omega) x, fun n hn a b e => by
    obtain ⟨n, rfl⟩ : ∃ m, n = m + 1 := ⟨n - 1, by omega⟩
    rw [nrm_ls, nrm_ls, D.ls.injEq, List.map_map, List.map_map] at e
    exact (List.map_inj_right fun x y q => h.nr n (by omega) x y q).mp e, fun _ _ h => nomatch h⟩
theorem eq_p {α β : Type} {k : Nat} {e1 : α → D} {e2 : β → D} (h1 : EqOk k e1) (h2 : EqOk k e2) : EqOk (k + 1) fun p : α × β => .tp [e1 p.1, e2 p.2] := ⟨fun n hn a => by
    obtain ⟨n, rfl⟩ : ∃ m, n = m + 1 := ⟨n - 1, by omega⟩
    rw [pl_tp]
    intro d hd
    rcases List.mem_cons.mp hd with q | q
    · rw [q]; exact h1.pl n (by omega) _
    · rw [List.mem_singleton.mp q]; exact h2.pl n (by omega) _, fun n hn a b e => by
    obtain ⟨n, rfl⟩ : ∃ m, n = m + 1 := ⟨n - 1, by omega⟩
    rw [nrm_tp, nrm_tp, D.tp.injEq] at e
    simp only [List.map_cons, List.map_nil, List.cons.injEq, and_true] at e
    exact Prod.ext (h1.nr n (by omega) _ _ e.1) (h2.nr n (by omega) _ _ e.2), fun _ _ h => nomatch h⟩
theorem EqOk.up {α : Type} {k m : Nat} {enc : α → D} (h : EqOk k enc) (hm : k ≤ m) : EqOk m enc := ⟨fun n hn => h.pl n (by omega), fun n hn => h.nr n (by omega), h.nc⟩
theorem EqOk.eq {α : Type} {k : Nat} {enc : α → D} (h : EqOk k enc) {neg : Bool} {M : MM} {K : Kd} {a b : α} [Decidable (a = b)] (hk : k ≤ 9 := by decide) : rEqD' neg (enc a) (enc b) M K ↔ K (.bl (if neg then !decide (a = b) else decide (a = b))) M := by
  have v : ∀ a, view M (enc a) = enc a := fun a => by
    have := h.nc a
    cases e : enc a <;> first | rfl | exact absurd e (this _)
  have q : eqD M (enc a) (enc b) ↔ a = b := by
    unfold eqD
    rw [v, v]
    exact ⟨h.nr 9 hk a b, fun e => by rw [e]⟩
  unfold rEqD'
  rw [v, v, decide_eq_decide.mpr q]
  exact ⟨fun z => z.2.2, fun z => ⟨h.pl 9 hk a, h.pl 9 hk b, z⟩⟩
/-- .. a list at hand -/
theorem EqOk.eqC {α : Type} {k : Nat} {enc : α → D} (h : EqOk k enc) {neg : Bool} {M : MM} {K : Kd} {j : Nat} {a b : List α} [Decidable (a = b)] (hj : M[j]? = some (.ls (a.map enc))) (hk : k + 1 ≤ 9 := by decide) : rEqD' neg (.cel j) (.ls (b.map enc)) M K ↔ K (.bl (if neg then !decide (a = b) else decide (a = b))) M := by
  refine Iff.trans ?_ ((eq_ls h).eq (M := M) (neg := neg) (a := a) (b := b) (K := K) hk)
  unfold rEqD' eqD
  rw [view_cel hj]
  exact Iff.rfl
end L3

namespace L3
open PySem PySem.Spec PyProof.Rows L2 Evl
open Classical
theorem lsOf_c {M : MM} {j : Nat} : lsOf M (.cel j) = match M[j]? with | some (.ls l) => some l | _ => none := rfl
theorem lsOwn_c {M : MM} {j : Nat} : lsOwn M (.cel j) = match M[j]? with | some (.ls l) => some l | _ => none := rfl
theorem sqOf_c {M : MM} {j : Nat} : sqOf M (.cel j) = match M[j]? with | some (.ls l) => some l | _ => none := by
  unfold sqOf
  rw [lsOf_c]
  show Option.or _ none = _
  rw [Option.or_none]
theorem view_c {M : MM} {j : Nat} : view M (.cel j) = match M[j]? with | some (.ls l) => .ls l | _ => .cel j := rfl
theorem app_iff {m : MO} {P : List D → Prop} {l : List D} (h : m = .ls l) : (∃ l', some m = some (.ls l') ∧ P l') ↔ P l := ⟨fun ⟨l', e, p⟩ => by
  rw [h] at e
  cases e
  exact p, fun p => ⟨l, by rw [h], p⟩⟩
end L3
namespace L3
open PySem PySem.Spec PyProof.Rows L2 Evl
theorem pickR {K : Kd} {M : MM} {l : List D} {i : Int} {x : D} (hx : sqOf M x = some l) (hn : ∀ s, x ≠ .str s) (h0 : 0 ≤ i) (h1 : i < l.length) (h : ∀ d ∈ l, K d M) : rIxD x (.int i) M K := by
  obtain ⟨d, e, k⟩ := pick (Q := fun d => K d M) h0 h1 h
  exact ixR_iff e x hx hn k
/-- an item of a written list -/
theorem pickL {K : Kd} {M : MM} {l : List D} {i : Int} (h0 : 0 ≤ i) (h1 : i < l.length) (h : ∀ d ∈ l, K d M) : rIxD (.ls l) (.int i) M K := pickR rfl (fun _ h => nomatch h) h0 h1 h
end L3

namespace L3
open PySem PySem.Spec PyProof.Rows L2 Evl
open Classical
/-! ### readings step by step: what goes on behind lies in a box, where simp does not look -/
class Box (α : Type) where
  val : α
def gets {α : Type} (o : Option α) [b : Box (α → Prop)] : Prop := match o with | some a => b.val a | none => False
theorem gets_s {α : Type} {a : α} {K : α → Prop} : gets (some a) (b := ⟨K⟩) = K a := rfl
theorem gets_n {α : Type} {K : α → Prop} : gets none (b := ⟨K⟩) = False := rfl
theorem gets_ex {α : Type} {o : Option α} {K : α → Prop} : (∃ a, o = some a ∧ K a) = gets o (b := ⟨K⟩) := propext (by cases o <;> simp [gets])
theorem gets_i {α : Type} {o : Option α} {K : α → Prop} {a : α} (h : o = some a) (k : K a) : gets o (b := ⟨K⟩) := by rw [h]; exact k
def ifI (c : Prop) [Decidable c] [t : Box Prop] [e : Box Prop] : Prop := if c then t.val else e.val
theorem ifI_t {i : Decidable True} {A B : Prop} : @ifI True i ⟨A⟩ ⟨B⟩ = A := if_pos trivial
theorem ifI_f {i : Decidable False} {A B : Prop} : @ifI False i ⟨A⟩ ⟨B⟩ = B := if_neg id
theorem ifI_p {c : Prop} {i : Decidable c} {A B : Prop} (h : c) : @ifI c i ⟨A⟩ ⟨B⟩ = A := if_pos h
theorem ifI_m {c : Prop} {i : Decidable c} {A B : Prop} (h : ¬ c) : @ifI c i ⟨A⟩ ⟨B⟩ = B := if_neg h
theorem ifI_i {c : Prop} {i : Decidable c} {A B : Prop} (h : c → A) (h2 : ¬ c → B) : @ifI c i ⟨A⟩ ⟨B⟩ := by
  by_cases z : c
  · rw [ifI_p z]; exact h z
  · rw [ifI_m z]; exact h2 z
theorem gets_if {α : Type} {c : Prop} [Decidable c] {a b : Option α} {K : α → Prop} : gets (if c then a else b) (b := ⟨K⟩) = ifI c (t := ⟨gets a (b := ⟨K⟩)⟩) (e := ⟨gets b (b := ⟨K⟩)⟩) := by unfold ifI; split <;> rfl
def onS (d : D) [b : Box (List Nat → Prop)] : Prop := match d with | .str a => b.val a | _ => False
def onI (d : D) [b : Box (Int → Prop)] : Prop := match d with | .int a => b.val a | _ => False
def onC (d : D) [b : Box (Nat → Prop)] : Prop := match d with | .cel a => b.val a | _ => False
def onB (d : D) [b : Box (Bool → Prop)] : Prop := match d with | .bl a => b.val a | _ => False
def onL (m : MO) [b : Box (List D → Prop)] : Prop := match m with | .ls a => b.val a | _ => False
theorem onS_s {a : List Nat} {K : List Nat → Prop} : onS (.str a) (b := ⟨K⟩) = K a := rfl
theorem onI_s {a : Int} {K : Int → Prop} : onI (.int a) (b := ⟨K⟩) = K a := rfl
theorem onC_s {a : Nat} {K : Nat → Prop} : onC (.cel a) (b := ⟨K⟩) = K a := rfl
theorem onB_s {a : Bool} {K : Bool → Prop} : onB (.bl a) (b := ⟨K⟩) = K a := rfl
theorem onL_s {a : List D} {K : List D → Prop} : onL (.ls a) (b := ⟨K⟩) = K a := rfl
/-- A, then what goes on -/
def thenP (A : Prop) [b : Box Prop] : Prop := A ∧ b.val
theorem thenP_t {B : Prop} : thenP True (b := ⟨B⟩) = B := true_and B
theorem thenP_f {B : Prop} : thenP False (b := ⟨B⟩) = False := false_and B
def opI (r : DO2) (x y : D) (M : MM) [b : Box Kd] : Prop := r x y M b.val
def cbI (r : DC) (ds : List D) (M : MM) [b : Box Kd] : Prop := r ds M b.val
def mtI (r : DM) (a : List Nat) (ds : List D) (M : MM) [b : Box Kd] : Prop := r a ds M b.val
def slI (x : D) (lo hi : Option Int) (M : MM) [b : Box Kd] : Prop := rSlD x lo hi M b.val
def callI (c : CK) (Γ : G) (ds : List D) (M : MM) [b : Box (Kd × Rx)] : Prop := c Γ ds M b.val.1 b.val.2
def compI (chk : MM → Prop) (tg : Tgt) (tt : DT) (te : DE) (Γw : G) (l : List D) (M : MM) [b : Box Kd] : Prop := compD chk tg tt te Γw b.val l [] M
def forI (chk : MM → Prop) (tg : Tgt) (body : DS) (l : List D) (Γ : G) (M : MM) [b : Box DEnds] : Prop := forD chk tg body b.val l Γ M
def whileI (c : DT) (s : DS) (Γ : G) (M : MM) [b : Box DEnds] : Prop := dWhile c s b.val Γ M
theorem e_while {c : DT} {s : DS} {E : DEnds} {Γ : G} {M : MM} : dWhile c s E Γ M = whileI c s Γ M (b := ⟨E⟩) := rfl
section
variable {Γ : G} {M : MM} {K : Kd} {R : Rx} {E : DEnds} {Kb' : Kb} {Kl' : Kl} {t u : DE} {tt tu : DT} {ta tb : DA} {s s' : DS} {r : DO2} {i j : Nat} {d : D} {Kt : List D → (MM → Prop) → MM → Prop}
theorem e_var : dVar i Γ M K R = gets Γ[i]? (b := ⟨fun o => gets o (b := ⟨fun d => K d M⟩)⟩) := propext (by
  unfold dVar gets
  cases Γ[i]? with
  | none => simp
  | some o => cases o <;> simp)
theorem e_c : dC d Γ M K R = K d M := rfl
theorem e_op : dOp r t u Γ M K R = t Γ M (fun d1 M1 => u Γ M1 (fun d2 M2 => opI r d1 d2 M2 (b := ⟨K⟩)) R) R := rfl
theorem e_nil {Kl' : Kl} : aNil Γ M Kl' R = Kl' [] M := rfl
theorem e_cons {Kl' : Kl} : aCons t ta Γ M Kl' R = t Γ M (fun d M1 => ta Γ M1 (fun ds M2 => Kl' (d :: ds) M2) R) R := rfl
theorem e_tup : dTup ta Γ M K R = ta Γ M (fun ds M1 => thenP (ds.length ≤ 16777216) (b := ⟨K (.tp ds) M1⟩)) R := rfl
theorem e_lst : dLst ta Γ M K R = ta Γ M (fun ds M1 => thenP (ds.length ≤ 16777216) (b := ⟨K (.ls ds) M1⟩)) R := rfl
theorem e_lstC : dLstC ta Γ M K R = ta Γ M (fun ds M1 => thenP (ds.length ≤ 16777216) (b := ⟨K (.cel M1.length) (M1 ++ [.ls ds])⟩)) R := rfl
theorem e_tru {K : Kb} : qTru t Γ M K R = t Γ M (fun d M1 => gets (truD M1 d) (b := ⟨fun b => K b M1⟩)) R := by
  unfold qTru
  simp only [gets_ex]
theorem e_qnot {K : Kb} : qNot tt Γ M K R = tt Γ M (fun b M1 => K (!b) M1) R := rfl
theorem e_qand {K : Kb} : qAnd tt tu Γ M K R = tt Γ M (fun b M1 => ifI (b = true) (t := ⟨tu Γ M1 K R⟩) (e := ⟨K false M1⟩)) R := rfl
theorem e_qor {K : Kb} : qOr tt tu Γ M K R = tt Γ M (fun b M1 => ifI (b = true) (t := ⟨K true M1⟩) (e := ⟨tu Γ M1 K R⟩)) R := rfl
theorem e_qyes {K : Kb} : qYes Γ M K R = K true M := rfl
theorem e_if : dIf tt t u Γ M K R = tt Γ M (fun b M1 => ifI (b = true) (t := ⟨t Γ M1 K R⟩) (e := ⟨u Γ M1 K R⟩)) R := rfl
theorem e_not : dNot t Γ M K R = t Γ M (fun d M1 => gets (truD M1 d) (b := ⟨fun b => K (.bl (!b)) M1⟩)) R := by
  unfold dNot
  simp only [gets_ex]
theorem e_and : dAnd t u Γ M K R = t Γ M (fun d M1 => gets (truD M1 d) (b := ⟨fun b => ifI (b = true) (t := ⟨u Γ M1 K R⟩) (e := ⟨K d M1⟩)⟩)) R := by
  unfold dAnd
  simp only [gets_ex]
  rfl
theorem e_or : dOr t u Γ M K R = t Γ M (fun d M1 => gets (truD M1 d) (b := ⟨fun b => ifI (b = true) (t := ⟨K d M1⟩) (e := ⟨u Γ M1 K R⟩)⟩)) R := by
  unfold dOr
  simp only [gets_ex]
  rfl
theorem e_neg : rNegD t Γ M K R = t Γ M (fun d M1 => onI d (b := ⟨fun i => K (.int (-i)) M1⟩)) R := by
  unfold rNegD
  congr
theorem e_chain {r r' : DO2} {ta tb tc : DE} : dChain r r' ta tb tc Γ M K R = ta Γ M (fun d1 M1 => tb Γ M1 (fun d2 M2 => opI r d1 d2 M2 (b := ⟨fun d3 M3 => onB d3 (b := ⟨fun k => ifI (k = true) (t := ⟨tc Γ M3 (fun d4 M4 => opI r' d2 d4 M4 (b := ⟨K⟩)) R⟩) (e := ⟨K (.bl false) M3⟩)⟩)⟩)) R) R := by
  unfold dChain
  congr
  funext d1 M1
  congr
  funext d2 M2
  congr
  funext d3 M3
  refine propext ⟨?_, ?_⟩
  · rintro ⟨k, rfl, h⟩
    exact h
  · intro h
    cases d3 with
    | bl b => exact ⟨b, rfl, h⟩
    | _ => exact h.elim
theorem e_call {r : DC} : dCall r ta Γ M K R = ta Γ M (fun ds M1 => cbI r ds M1 (b := ⟨K⟩)) R := rfl
theorem e_no {K : Option Int → MM → Prop} : dNo Γ M K R = K none M := rfl
theorem e_part {K : Option Int → MM → Prop} : dPart t Γ M K R = t Γ M (fun d M1 => onI d (b := ⟨fun i => K (some i) M1⟩)) R := by
  unfold dPart
  congr
theorem e_sl {tl th : DP} : dSl t tl th Γ M K R = t Γ M (fun d M1 => tl Γ M1 (fun l M2 => th Γ M2 (fun h M3 => slI d l h M3 (b := ⟨K⟩)) R) R) R := rfl
theorem e_slC {tl th : DP} : dSlC t tl th Γ M K R = t Γ M (fun d M1 => tl Γ M1 (fun l M2 => th Γ M2 (fun h M3 => gets (lsOf M3 d) (b := ⟨fun a => K (.cel M3.length) (M3 ++ [.ls (cut a l h)])⟩)) R) R) R := by
  unfold dSlC
  congr
  funext d M1
  congr
  funext l M2
  congr
  funext h M3
  cases lsOf M3 d <;> rfl
theorem e_fn {c : CK} {dv : List D} : dFn c dv ta Γ M K R = ta Γ M (fun ds M1 => callI c Γ (ds ++ dv) M1 (b := ⟨(K, R)⟩)) R := rfl
theorem e_fn0 {c : CK} {dv : List D} : dFn0 c dv Γ M K R = callI c Γ dv M (b := ⟨(K, fun _ _ _ => False)⟩) := rfl
theorem e_fnK {c : CK} {gD : List D → List D → List D} {n m : Nat} : dFnK c gD n m ta tb Γ M K R = ta Γ M (fun ds M1 => tb Γ M1 (fun es M2 => thenP (ds.length = n ∧ es.length = m) (b := ⟨callI c Γ (gD ds es) M2 (b := ⟨(K, R)⟩)⟩)) R) R := by
  unfold dFnK
  congr
  funext ds M1
  congr
  funext es M2
  exact propext ⟨fun ⟨a, b, c⟩ => ⟨⟨a, b⟩, c⟩, fun ⟨⟨a, b⟩, c⟩ => ⟨a, b, c⟩⟩
theorem e_m0 {r : DM} : dM0 r t Γ M K R = t Γ M (fun d M1 => onS d (b := ⟨fun a => mtI r a [] M1 (b := ⟨K⟩)⟩)) R := by
  unfold dM0
  congr
theorem e_m {r : DM} : dM r t ta Γ M K R = t Γ M (fun d M1 => onS d (b := ⟨fun a => ta Γ M1 (fun ds M2 => mtI r a ds M2 (b := ⟨K⟩)) R⟩)) R := by
  unfold dM
  congr
theorem e_frz : dFrz i Γ M K R = gets Γ[i]? (b := ⟨fun o => gets o (b := ⟨fun d => onC d (b := ⟨fun k => gets M[k]? (b := ⟨fun m => onL m (b := ⟨fun l => K (.ls l) (M.set k .dead)⟩)⟩)⟩)⟩)⟩) := propext (by
  unfold dFrz
  constructor
  · rintro ⟨k, l, h1, h2, h3⟩
    rw [h1]
    show gets M[k]? (b := _)
    rw [h2]
    exact h3
  · intro h
    cases e : Γ[i]? with
    | none => rw [e] at h; exact h.elim
    | some o =>
      rw [e] at h
      cases o with
      | none => exact h.elim
      | some d =>
        cases d with
        | cel k =>
          have h : gets M[k]? (b := _) := h
          cases e2 : M[k]? with
          | none => rw [e2] at h; exact h.elim
          | some m =>
            rw [e2] at h
            cases m with
            | ls l => exact ⟨k, l, rfl, e2, h⟩
            | _ => exact h.elim
        | _ => exact h.elim)
theorem e_fz : dFz t Γ M K R = t Γ M (fun d M1 => match d with
  | .cel k => gets M1[k]? (b := ⟨fun m => onL m (b := ⟨fun l => K (.ls l) (M1.set k .dead)⟩)⟩)
  | d => K d M1) R := by
  unfold dFz
  congr
  funext d M1
  cases d with
  | cel k =>
    refine propext ⟨?_, ?_⟩
    · rintro ⟨l, h1, h2⟩
      show gets M1[k]? (b := _)
      rw [h1]
      exact h2
    · intro h
      have h : gets M1[k]? (b := _) := h
      cases e2 : M1[k]? with
      | none => rw [e2] at h; exact h.elim
      | some m =>
        rw [e2] at h
        cases m with
        | ls l => exact ⟨l, e2, h⟩
        | _ => exact h.elim
  | _ => rfl
theorem e_app {te : DE} : dApp t te Γ M K R = t Γ M (fun o M1 => onC o (b := ⟨fun k => thenP (∃ l, M1[k]? = some (.ls l)) (b := ⟨te Γ M1 (fun d M2 => gets M2[k]? (b := ⟨fun m => onL m (b := ⟨fun l => thenP (l.length < 16777216) (b := ⟨K .non (M2.set k (.ls (l ++ [d])))⟩) ⟩)⟩)) R⟩)⟩)) R := by
  unfold dApp
  congr
  funext d M1
  cases d with
  | cel k =>
    show (_ ∧ _) = (_ ∧ _)
    congr
    funext d M2
    refine propext ⟨?_, ?_⟩
    · rintro ⟨l, h1, h2⟩
      rw [h1]
      exact h2
    · intro h
      cases e2 : M2[k]? with
      | none => rw [e2] at h; exact h.elim
      | some m =>
        rw [e2] at h
        cases m with
        | ls l => exact ⟨l, rfl, h⟩
        | _ => exact h.elim
  | _ => rfl
theorem has_ls {m : MO} {l : List D} (h : some m = some (MO.ls l)) : (∃ l, some m = some (MO.ls l)) = True := eq_true ⟨l, h⟩
theorem has_ls2 {l : List D} : (∃ l', MO.ls l = MO.ls l') = True := eq_true ⟨l, rfl⟩
theorem has_ls1 {l : List D} : (∃ l', some (MO.ls l) = some (MO.ls l')) = True := eq_true ⟨l, rfl⟩
theorem e_lc {it : DIt} {tg : Tgt} {te : DE} {own : List Nat} : dLc it tg tt te own Γ M K R = it Γ M (fun items chk M1 => compI chk tg tt te (wipeG Γ own) items M1 (b := ⟨K⟩)) R := rfl
theorem e_esc {tb : DE} : dEsc t tb Γ M K R = t Γ M (fun d1 M1 => onS d1 (b := ⟨fun a => thenP (a.length ≤ 1000) (b := ⟨tb Γ M1 (fun d2 M2 => onI d2 (b := ⟨fun i => ∃ n : Nat, i = n ∧ n < 256 ∧ K (.str (a ++ hexT n)) M2⟩)) R⟩)⟩)) R := by
  unfold dEsc
  congr
/-! statements -/
theorem e_next : dNext E Γ M = E.nx Γ M := rfl
theorem e_seq : dSeq s s' E Γ M = s { E with nx := s' E } Γ M := rfl
theorem e_ret : dRet t E Γ M = t Γ M E.rt E.rz := rfl
theorem e_retN : dRetN E Γ M = E.rt .non M := rfl
theorem e_drop : dDrop t E Γ M = t Γ M (fun _ M1 => E.nx Γ M1) E.rz := rfl
theorem e_set : dSet i t E Γ M = t Γ M (fun d M1 => E.nx (Γ.set i (some d)) M1) E.rz := rfl
theorem e_ifS : dIfS tt s s' E Γ M = tt Γ M (fun b M1 => ifI (b = true) (t := ⟨s E Γ M1⟩) (e := ⟨s' E Γ M1⟩)) E.rz := rfl
theorem e_brk : dBrk E Γ M = E.bk Γ M := rfl
theorem e_cnt : dCnt E Γ M = E.ct Γ M := rfl
theorem e_par : dPar i j ta E Γ M = ta Γ M (fun ds M1 => match ds with
  | [a, b] => E.nx ((Γ.set i (some a)).set j (some b)) M1
  | _ => False) E.rz := rfl
theorem e_aug : dAug i r t E Γ M = gets Γ[i]? (b := ⟨fun o => gets o (b := ⟨fun d => t Γ M (fun d2 M1 => opI r d d2 M1 (b := ⟨fun d3 M2 => E.nx (Γ.set i (some d3)) M2⟩)) E.rz⟩)⟩) := propext (by
  unfold dAug gets
  cases Γ[i]? with
  | none => simp
  | some o =>
    cases o with
    | none => simp
    | some d => exact ⟨fun ⟨d', e, h⟩ => by cases e; exact h, fun h => ⟨d, rfl, h⟩⟩)
theorem e_setIx {to ti te : DE} : dSetIx to ti te E Γ M = te Γ M (fun d M1 => to Γ M1 (fun o M2 => ti Γ M2 (fun i M3 => onC o (b := ⟨fun k => onI i (b := ⟨fun z => gets M3[k]? (b := ⟨fun m => onL m (b := ⟨fun l => gets (L2.ixN l.length z) (b := ⟨fun j => E.nx Γ (M3.set k (.ls (l.set j d)))⟩)⟩)⟩)⟩)⟩)) E.rz) E.rz) E.rz := by
  unfold dSetIx
  congr
  funext d M1
  congr
  funext o M2
  congr
  funext i M3
  cases o with
  | cel k =>
    cases i with
    | int z =>
      refine propext ⟨?_, ?_⟩
      · rintro ⟨l, j, h1, h2, h3⟩
        show gets M3[k]? (b := _)
        rw [h1]
        show gets (L2.ixN l.length z) (b := _)
        rw [h2]
        exact h3
      · intro h
        have h : gets M3[k]? (b := _) := h
        cases e2 : M3[k]? with
        | none => rw [e2] at h; exact h.elim
        | some m =>
          rw [e2] at h
          cases m with
          | ls l =>
            have h : gets (L2.ixN l.length z) (b := _) := h
            cases e3 : L2.ixN l.length z with
            | none => rw [e3] at h; exact h.elim
            | some j => rw [e3] at h; exact ⟨l, j, e2, e3, h⟩
          | _ => exact h.elim
    | _ => rfl
  | _ => rfl
theorem e_for {it : DIt} {tg : Tgt} : dFor it tg s E Γ M = it Γ M (fun items chk M1 => forI chk tg s items Γ M1 (b := ⟨E⟩)) E.rz := rfl
theorem e_unp {tg : Tgt} : dUnp tg t E Γ M = t Γ M (fun d M1 => tg.d d Γ fun Γ' => E.nx Γ' M1) E.rz := rfl
theorem e_nm {Q : G → Prop} : (Tgt.nm i).d d Γ Q = Q (Γ.set i (some d)) := by cases d <;> rfl
theorem e_tgt {is : List Nat} {ds : List D} {Q : G → Prop} : (Tgt.tup is).d (.tp ds) Γ Q = thenP (ds.length = is.length) (b := ⟨Q (setAll Γ is ds)⟩) := rfl
/-! what is walked -/
theorem e_iLst : iLst t Γ M Kt R = t Γ M (fun d M1 => gets (lsOf M1 d) (b := ⟨fun l => Kt l (fun M' => lsOf M' d = some l) M1⟩)) R := by
  unfold iLst
  simp only [gets_ex]
theorem e_iTp : iTp t Γ M Kt R = t Γ M (fun d M1 => gets (tpOf d) (b := ⟨fun l => Kt l (fun _ => True) M1⟩)) R := by
  unfold iTp
  simp only [gets_ex]
theorem e_iStr : iStr' t Γ M Kt R = t Γ M (fun d M1 => onS d (b := ⟨fun l => Kt (l.map fun c => .str [c]) (fun _ => True) M1⟩)) R := by
  unfold iStr'
  congr
  funext d M1
  refine propext ⟨?_, ?_⟩
  · rintro ⟨l, rfl, h⟩
    exact h
  · intro h
    cases d with
    | str a => exact ⟨a, rfl, h⟩
    | _ => exact h.elim
def isR1 (ds : List D) (M : MM) [bx : Box (List D → (MM → Prop) → MM → Prop)] : Prop := match ds with
  | [.int n] => thenP (n < 2 ^ 62 ∧ -(2 ^ 62) ≤ n) (b := ⟨bx.val ((List.range n.toNat).map fun i => .int (i : Nat)) (fun _ => True) M⟩)
  | _ => False
theorem e_iR1 : iR1 ta Γ M Kt R = ta Γ M (fun ds M1 => isR1 ds M1 (bx := ⟨Kt⟩)) R := by
  unfold iR1
  congr
  funext ds M1
  refine propext ⟨?_, ?_⟩
  · rintro ⟨n, rfl, h1, h2, h3⟩
    exact ⟨⟨h1, h2⟩, h3⟩
  · intro h
    match ds, h with
    | [.int n], h => exact ⟨n, rfl, h.1.1, h.1.2, h.2⟩
theorem isR1_s {n : Int} : isR1 [.int n] M (bx := ⟨Kt⟩) = thenP (n < 2 ^ 62 ∧ -(2 ^ 62) ≤ n) (b := ⟨Kt ((List.range n.toNat).map fun i => .int (i : Nat)) (fun _ => True) M⟩) := rfl
def isR2 (ds : List D) (M : MM) [bx : Box (List D → (MM → Prop) → MM → Prop)] : Prop := match ds with
  | [.int a, .int b] => thenP (-(2 ^ 62) ≤ a ∧ a < 2 ^ 62 ∧ -(2 ^ 62) ≤ b ∧ b < 2 ^ 62) (b := ⟨bx.val ((List.range (b - a).toNat).map fun i => .int (a + (i : Nat))) (fun _ => True) M⟩)
  | _ => False
theorem e_iR2 : iR2 ta Γ M Kt R = ta Γ M (fun ds M1 => isR2 ds M1 (bx := ⟨Kt⟩)) R := by
  unfold iR2
  congr
  funext ds M1
  refine propext ⟨?_, ?_⟩
  · rintro ⟨a, b, rfl, h1, h3⟩
    exact ⟨h1, h3⟩
  · intro h
    match ds, h with
    | [.int a, .int b], h => exact ⟨a, b, rfl, h.1, h.2⟩
theorem isR2_s {a b : Int} : isR2 [.int a, .int b] M (bx := ⟨Kt⟩) = thenP (-(2 ^ 62) ≤ a ∧ a < 2 ^ 62 ∧ -(2 ^ 62) ≤ b ∧ b < 2 ^ 62) (b := ⟨Kt ((List.range (b - a).toNat).map fun i => .int (a + (i : Nat))) (fun _ => True) M⟩) := rfl
def isEn (ds : List D) (M : MM) [bx : Box (List D → (MM → Prop) → MM → Prop)] : Prop := match ds with
  | [d] => gets (lsOf M d) (b := ⟨fun l => bx.val (enD id l) (fun M' => lsOf M' d = some l) M⟩)
  | _ => False
theorem e_iEn : iEn ta Γ M Kt R = ta Γ M (fun ds M1 => isEn ds M1 (bx := ⟨Kt⟩)) R := by
  unfold iEn
  congr
  funext ds M1
  refine propext ⟨?_, ?_⟩
  · rintro ⟨d, l, rfl, h1, h3⟩
    show gets (lsOf M1 d) (b := _)
    rw [h1]
    exact h3
  · intro h
    match ds, h with
    | [d], h =>
      have h : gets (lsOf M1 d) (b := _) := h
      cases e : lsOf M1 d with
      | none => rw [e] at h; exact h.elim
      | some l => rw [e] at h; exact ⟨d, l, rfl, e, h⟩
theorem isEn_s {d : D} : isEn [d] M (bx := ⟨Kt⟩) = gets (lsOf M d) (b := ⟨fun l => Kt (enD id l) (fun M' => lsOf M' d = some l) M⟩) := rfl
def isEnS (k : Nat) (ds : List D) (M : MM) [bx : Box (List D → (MM → Prop) → MM → Prop)] : Prop := match ds with
  | [.str l] => bx.val (enS k l) (fun _ => True) M
  | _ => False
theorem e_iEnS : iEnS ta Γ M Kt R = ta Γ M (fun ds M1 => isEnS 0 ds M1 (bx := ⟨Kt⟩)) R := by
  unfold iEnS
  congr
  funext ds M1
  refine propext ⟨?_, ?_⟩
  · rintro ⟨l, rfl, h3⟩
    exact h3
  · intro h
    match ds, h with
    | [.str l], h => exact ⟨l, rfl, h⟩
theorem isEnS_s {k : Nat} {l : List Nat} : isEnS k [.str l] M (bx := ⟨Kt⟩) = Kt (enS k l) (fun _ => True) M := rfl
/-! operations on known kinds -/
theorem r_addI {a b : Int} : opI (rAddD) (.int a) (.int b) M (b := ⟨K⟩) = K (.int (a + b)) M := rfl
theorem r_addS {a b : List Nat} : opI (rAddD) (.str a) (.str b) M (b := ⟨K⟩) = thenP (a.length + b.length ≤ 16777216) (b := ⟨K (.str (a ++ b)) M⟩) := rfl
theorem r_addT {a b : List D} : opI (rAddD) (.tp a) (.tp b) M (b := ⟨K⟩) = thenP (a.length + b.length ≤ 16777216) (b := ⟨K (.tp (a ++ b)) M⟩) := rfl
theorem r_addL {a b : List D} : opI (rAddD) (.ls a) (.ls b) M (b := ⟨K⟩) = thenP (a.length + b.length ≤ 16777216) (b := ⟨K (.ls (a ++ b)) M⟩) := rfl
theorem r_iaddI {a b : Int} : opI (rIAddD) (.int a) (.int b) M (b := ⟨K⟩) = K (.int (a + b)) M := rfl
theorem r_iaddS {a b : List Nat} : opI (rIAddD) (.str a) (.str b) M (b := ⟨K⟩) = thenP (a.length + b.length ≤ 16777216) (b := ⟨K (.str (a ++ b)) M⟩) := rfl
theorem r_sub {a b : Int} : opI (rSubD) (.int a) (.int b) M (b := ⟨K⟩) = K (.int (a - b)) M := rfl
theorem r_mulI {a b : Int} : opI (rMulD) (.int a) (.int b) M (b := ⟨K⟩) = thenP ((-(2 ^ 64) < a ∧ a < 2 ^ 64) ∨ (-(2 ^ 64) < b ∧ b < 2 ^ 64) ∨ a.natAbs.log2 + b.natAbs.log2 < 1000000) (b := ⟨K (.int (a * b)) M⟩) := rfl
theorem r_mulL {a : List D} {k : Int} : opI (rMulD) (.ls a) (.int k) M (b := ⟨K⟩) = thenP (-(2 ^ 63) ≤ k ∧ k < 2 ^ 63 ∧ a.length * k.toNat ≤ 16777216) (b := ⟨K (.ls (List.replicate k.toNat a).flatten) M⟩) := propext (by
  show (_ ∧ _ ∧ _ ∧ _) ↔ (_ ∧ _ ∧ _) ∧ _
  simp only [and_assoc])
theorem r_mod {a b : Int} : opI (rModD) (.int a) (.int b) M (b := ⟨K⟩) = thenP (0 < b) (b := ⟨K (.int (a % b)) M⟩) := rfl
theorem r_fdiv {a b : Int} : opI (rFdivD) (.int a) (.int b) M (b := ⟨K⟩) = thenP (0 < b ∧ b < 1073741824) (b := ⟨K (.int (a / b)) M⟩) := rfl
theorem r_pow {a b : Int} : opI (rPowD) (.int a) (.int b) M (b := ⟨K⟩) = thenP (0 ≤ b ∧ b ≤ 1000000 ∧ a.natAbs < 2 ^ 64) (b := ⟨K (.int (a ^ b.toNat)) M⟩) := rfl
theorem r_ordI {f : Int → Int → Bool} {g : List Nat → List Nat → Bool} {a b : Int} : opI (rOrdD f g) (.int a) (.int b) M (b := ⟨K⟩) = K (.bl (f a b)) M := rfl
theorem r_ordS {f : Int → Int → Bool} {g : List Nat → List Nat → Bool} {a b : List Nat} : opI (rOrdD f g) (.str a) (.str b) M (b := ⟨K⟩) = K (.bl (g a b)) M := rfl
theorem r_is {neg : Bool} : opI (rIsN' neg) d .non M (b := ⟨K⟩) = K (.bl (if neg then !isNon d else isNon d)) M := propext ⟨fun h => h.2, fun h => ⟨rfl, h⟩⟩
theorem r_inS {neg : Bool} {a b : List Nat} : opI (rInD neg) (.str a) (.str b) M (b := ⟨K⟩) = K (.bl (if neg then !inS a b else inS a b)) M := rfl
theorem r_ixS {a : List Nat} {i : Int} : opI (rIxD) (.str a) (.int i) M (b := ⟨K⟩) = thenP (a.length ≤ 16777216) (b := ⟨gets (L2.atI a i) (b := ⟨fun c => K (.str [c]) M⟩)⟩) := by
  rw [← gets_ex]
  rfl
theorem r_ixL {a : List D} {i : Int} : opI (rIxD) (.ls a) (.int i) M (b := ⟨K⟩) = gets (L2.atI a i) (b := ⟨fun c => K c M⟩) := by
  rw [← gets_ex]
  rfl
theorem r_ixR {a : List D} {i : Int} : opI (rIxD) (.rl a) (.int i) M (b := ⟨K⟩) = gets (L2.atI a i) (b := ⟨fun c => K c M⟩) := by
  rw [← gets_ex]
  rfl
theorem r_ixT {a : List D} {i : Int} : opI (rIxD) (.tp a) (.int i) M (b := ⟨K⟩) = gets (L2.atI a i) (b := ⟨fun c => K c M⟩) := by
  rw [← gets_ex]
  rfl
theorem r_ixC {k : Nat} {i : Int} : opI (rIxD) (.cel k) (.int i) M (b := ⟨K⟩) = gets M[k]? (b := ⟨fun m => onL m (b := ⟨fun l => gets (L2.atI l i) (b := ⟨fun c => K c M⟩)⟩)⟩) := by
  show (match sqOf M (.cel k) with | some l => ∃ d, L2.atI l i = some d ∧ K d M | none => False) = _
  rw [sqOf_c]
  cases e : M[k]? with
  | none => rfl
  | some m =>
    cases m with
    | ls l =>
      show (∃ d, L2.atI l i = some d ∧ K d M) = _
      rw [gets_ex]
      rfl
    | _ => rfl
theorem r_slS {a : List Nat} {lo hi : Option Int} : slI (.str a) lo hi M (b := ⟨K⟩) = thenP (a.length ≤ 16777216) (b := ⟨K (.str (cut a lo hi)) M⟩) := rfl
theorem r_slT {a : List D} {lo hi : Option Int} : slI (.tp a) lo hi M (b := ⟨K⟩) = K (.tp (cut a lo hi)) M := rfl
theorem r_slL {a : List D} {lo hi : Option Int} : slI (.ls a) lo hi M (b := ⟨K⟩) = K (.ls (cut a lo hi)) M := rfl
theorem r_slR {a : List D} {lo hi : Option Int} : slI (.rl a) lo hi M (b := ⟨K⟩) = K (.ls (cut a lo hi)) M := rfl
theorem r_lenS {a : List Nat} : cbI rLen [.str a] M (b := ⟨K⟩) = thenP (a.length ≤ 16777216) (b := ⟨K (.int a.length) M⟩) := rfl
theorem r_lenL {a : List D} : cbI rLen [.ls a] M (b := ⟨K⟩) = K (.int a.length) M := rfl
theorem r_lenT {a : List D} : cbI rLen [.tp a] M (b := ⟨K⟩) = K (.int a.length) M := rfl
theorem r_lenR {a : List D} : cbI rLen [.rl a] M (b := ⟨K⟩) = K (.int a.length) M := rfl
theorem r_abs {a : Int} : cbI rAbs [.int a] M (b := ⟨K⟩) = K (.int (if a < 0 then -a else a)) M := rfl
theorem r_max {a b : Int} : cbI rMax2 [.int a, .int b] M (b := ⟨K⟩) = K (.int (if b > a then b else a)) M := rfl
theorem r_min {a b : Int} : cbI rMin2 [.int a, .int b] M (b := ⟨K⟩) = K (.int (if b < a then b else a)) M := rfl
theorem r_intI {a : Int} : cbI rInt1 [.int a] M (b := ⟨K⟩) = K (.int a) M := rfl
theorem r_intB {a : Bool} : cbI rInt1 [.bl a] M (b := ⟨K⟩) = K (.int (if a then 1 else 0)) M := rfl
theorem r_ord {c : Nat} : cbI rOrd [.str [c]] M (b := ⟨K⟩) = K (.int (c : Nat)) M := rfl
theorem r_listL {a : List D} : cbI rListOf [.ls a] M (b := ⟨K⟩) = K (.ls a) M := rfl
theorem r_listT {a : List D} : cbI rListOf [.tp a] M (b := ⟨K⟩) = K (.ls a) M := rfl
theorem r_tupL {a : List D} : cbI rTupleOf [.ls a] M (b := ⟨K⟩) = K (.tp a) M := rfl
theorem r_tupT {a : List D} : cbI rTupleOf [.tp a] M (b := ⟨K⟩) = K (.tp a) M := rfl
theorem r_split {a : List Nat} {c : Nat} : mtI mSplit a [.str [c]] M (b := ⟨K⟩) = thenP (a.length + 2 ≤ 16777216) (b := ⟨K (.ls ((spC c a).map .str)) M⟩) := rfl
theorem r_part {a : List Nat} {c : Nat} : mtI mPart a [.str [c]] M (b := ⟨K⟩) = thenP (a.length ≤ 16777216) (b := ⟨K (.tp [.str (ptC c a).1, .str (ptC c a).2.1, .str (ptC c a).2.2]) M⟩) := rfl
theorem r_join {a : List Nat} {ss : List (List Nat)} : mtI mJoin a [.ls (ss.map .str)] M (b := ⟨K⟩) = thenP ((ss.map List.length).sum + ss.length * a.length ≤ 16777216) (b := ⟨K (.str (jn a ss)) M⟩) := propext (by
  constructor
  · rintro ⟨ts, e, h1, h2⟩
    rw [map_str_inj] at e
    subst e
    exact ⟨h1, h2⟩
  · intro h
    exact ⟨ss, rfl, h.1, h.2⟩)
theorem r_joinC {a : List Nat} {k : Nat} : mtI mJoin a [.cel k] M (b := ⟨K⟩) = gets M[k]? (b := ⟨fun m => onL m (b := ⟨fun l => mJoin a [.ls l] M K⟩)⟩) := by
  show (match sqOf M (.cel k) with | some l => _ | none => False) = _
  rw [sqOf_c]
  cases e : M[k]? with
  | none => rfl
  | some m => cases m <;> rfl
theorem r_starts {a b : List Nat} : mtI mStarts a [.str b] M (b := ⟨K⟩) = K (.bl (b.isPrefixOf a)) M := rfl
theorem r_ends {a b : List Nat} : mtI mEnds a [.str b] M (b := ⟨K⟩) = K (.bl (b.isSuffixOf a)) M := rfl
theorem r_lower {a : List Nat} : mtI mLower a [] M (b := ⟨K⟩) = thenP (a.length ≤ 5592405) (b := ⟨K (.str (a.map lowC)) M⟩) := rfl
theorem r_upper {a : List Nat} : mtI mUpper a [] M (b := ⟨K⟩) = thenP (a.length ≤ 5592405) (b := ⟨K (.str (a.map uppC)) M⟩) := rfl
theorem r_rfind {a : List Nat} {c : Nat} : mtI mRfind a [.str [c]] M (b := ⟨K⟩) = K (.int (optI (rfC c a))) M := rfl
theorem r_index {a : List Nat} {c : Nat} : mtI mIndex a [.str [c]] M (b := ⟨K⟩) = gets (fiC c a) (b := ⟨fun i => K (.int (i : Nat)) M⟩) := by
  rw [← gets_ex]
  rfl
theorem r_all {bs : List Bool} : cbI rAllD [.ls (bs.map .bl)] M (b := ⟨K⟩) = K (.bl (bs.all id)) M := propext (by
  constructor
  · rintro ⟨cs, e, h⟩
    have e : (bs.map D.bl) = cs.map D.bl := Option.some.inj e
    have : bs = cs := (List.map_inj_right (f := D.bl) fun _ _ h => D.bl.inj h).mp e
    subst this
    exact h
  · exact fun h => ⟨bs, rfl, h⟩)
theorem r_any {bs : List Bool} : cbI rAnyD [.ls (bs.map .bl)] M (b := ⟨K⟩) = K (.bl (bs.any id)) M := propext (by
  constructor
  · rintro ⟨cs, e, h⟩
    have e : (bs.map D.bl) = cs.map D.bl := Option.some.inj e
    have : bs = cs := (List.map_inj_right (f := D.bl) fun _ _ h => D.bl.inj h).mp e
    subst this
    exact h
  · exact fun h => ⟨bs, rfl, h⟩)
theorem r_sum {ns : List Int} : cbI rSumD [.ls (ns.map .int)] M (b := ⟨K⟩) = K (.int ns.sum) M := propext (by
  constructor
  · rintro ⟨cs, e, h⟩
    have e : (ns.map D.int) = cs.map D.int := Option.some.inj e
    have : ns = cs := (List.map_inj_right (f := D.int) fun _ _ h => D.int.inj h).mp e
    subst this
    exact h
  · exact fun h => ⟨ns, rfl, h⟩)
theorem r_hex {l : List Nat} : cbI rHex [.str l, .int 16] M (b := ⟨K⟩) = thenP (l ≠ [] ∧ l.length ≤ 640 ∧ ∀ c ∈ l, Hx.IsHex c) (b := ⟨K (.int ((Hx.hexNum l : Nat) : Int)) M⟩) := propext (by
  show (_ ∧ _ ∧ _ ∧ _) ↔ (_ ∧ _ ∧ _) ∧ _
  simp only [and_assoc])
theorem r_isi {n : String} : cbI rIsiD [d, .ty n] M (b := ⟨K⟩) = gets (tyD M d) (b := ⟨fun t => gets (L2.kitB t n) (b := ⟨fun b => K (.bl b) M⟩)⟩) := propext (by
  constructor
  · rintro ⟨t, b, h1, h2, h3⟩
    rw [h1]
    show gets (L2.kitB t n) (b := _)
    rw [h2]
    exact h3
  · intro h
    cases e : tyD M d with
    | none => rw [e] at h; exact h.elim
    | some t =>
      rw [e] at h
      have h : gets (L2.kitB t n) (b := _) := h
      cases e2 : L2.kitB t n with
      | none => rw [e2] at h; exact h.elim
      | some b => rw [e2] at h; exact ⟨t, b, e, e2, h⟩)
theorem r_eqS {a b : List Nat} : opI (rEqD' false) (.str a) (.str b) M (b := ⟨K⟩) = K (.bl (decide (a = b))) M := propext eqS_iff
theorem r_neS {a b : List Nat} : opI (rEqD' true) (.str a) (.str b) M (b := ⟨K⟩) = K (.bl (!decide (a = b))) M := propext eqS_iff
theorem r_eqI {a b : Int} : opI (rEqD' false) (.int a) (.int b) M (b := ⟨K⟩) = K (.bl (decide (a = b))) M := propext eqI_iff
theorem r_neI {a b : Int} : opI (rEqD' true) (.int a) (.int b) M (b := ⟨K⟩) = K (.bl (!decide (a = b))) M := propext eqI_iff
theorem r_eqB {a b : Bool} : opI (rEqD' false) (.bl a) (.bl b) M (b := ⟨K⟩) = K (.bl (decide (a = b))) M := propext eqB_iff
theorem r_neB {a b : Bool} : opI (rEqD' true) (.bl a) (.bl b) M (b := ⟨K⟩) = K (.bl (!decide (a = b))) M := propext eqB_iff
theorem r_eqL {a b : List (List Nat)} : opI (rEqD' false) (.ls (a.map .str)) (.ls (b.map .str)) M (b := ⟨K⟩) = K (.bl (decide (a = b))) M := propext eqL_iff
theorem r_neL {a b : List (List Nat)} : opI (rEqD' true) (.ls (a.map .str)) (.ls (b.map .str)) M (b := ⟨K⟩) = K (.bl (!decide (a = b))) M := propext eqL_iff
theorem r_eqL0 {a : List (List Nat)} : opI (rEqD' false) (.ls (a.map .str)) (.ls []) M (b := ⟨K⟩) = K (.bl (decide (a = []))) M := propext (eqL_iff (b := []))
theorem r_neL0 {a : List (List Nat)} : opI (rEqD' true) (.ls (a.map .str)) (.ls []) M (b := ⟨K⟩) = K (.bl (!decide (a = []))) M := propext (eqL_iff (b := []))
theorem t_s {l : List Nat} {K : Bool → Prop} : gets (truD M (.str l)) (b := ⟨K⟩) = thenP (l.length ≤ 16777216) (b := ⟨K (!l.isEmpty)⟩) := by
  show gets (if l.length ≤ 16777216 then some (!l.isEmpty) else none) (b := ⟨K⟩) = _
  by_cases h : l.length ≤ 16777216
  · rw [if_pos h, gets_s, eq_true h, thenP_t]
  · rw [if_neg h, gets_n, eq_false h, thenP_f]
theorem endG_rt {n : Nat} {K0 : Kd} {R0 : Kx} : (endG n K0 R0).rt d M = (Gr d ∧ OkM n M ∧ K0 d (M.take n)) := rfl
theorem endG_rz {n : Nat} {K0 : Kd} {R0 : Kx} {x : XD} : (endG n K0 R0).rz x Γ M = ((∀ d ∈ x.l, Gr d) ∧ OkM n M ∧ R0 x (M.take n)) := rfl
theorem endG_nx {n : Nat} {K0 : Kd} {R0 : Kx} : (endG n K0 R0).nx Γ M = (OkM n M ∧ K0 .non (M.take n)) := rfl
theorem endN_rt {n : Nat} {K0 : Kd} {R0 : Kx} : (endN n K0 R0).rt d M = (OkM n M ∧ onC d (b := ⟨fun k => thenP (n ≤ k) (b := ⟨gets M[k]? (b := ⟨fun m => GrM m ∧ K0 (.cel n) (M.take n ++ [m])⟩)⟩)⟩)) := propext (by
  show (OkM n M ∧ ∃ k m, d = .cel k ∧ n ≤ k ∧ M[k]? = some m ∧ GrM m ∧ K0 (.cel n) (M.take n ++ [m])) ↔ _
  constructor
  · rintro ⟨h0, k, m, rfl, h1, h2, h3⟩
    refine ⟨h0, h1, ?_⟩
    rw [h2]
    exact h3
  · rintro ⟨h0, h⟩
    cases d with
    | cel k =>
      obtain ⟨h1, h⟩ := h
      cases e : M[k]? with
      | none => rw [e] at h; exact h.elim
      | some m => rw [e] at h; exact ⟨h0, k, m, rfl, h1, e, h⟩
    | _ => exact h.elim)
end
theorem okM1 {l : List D} : OkM 1 [.ls l] = (∀ d ∈ l, Gr d) := propext (by
  unfold OkM
  constructor
  · intro h
    exact h (.ls l) (by simp)
  · intro h m hm
    have e : m = .ls l := by simpa using hm
    rw [e]
    exact h)
theorem ixN_lit {n : Nat} {k : Nat} (h : k < n) : L2.ixN n (k : Int) = some k := by
  have e : L2.atI (List.replicate n 0) (k : Int) = (List.replicate n 0)[k]? := atI_nat _ k
  unfold L2.atI at e
  rw [List.length_replicate] at e
  rw [List.getElem?_eq_getElem (by rw [List.length_replicate]; exact h)] at e
  cases q : L2.ixN n (k : Int) with
  | none => rw [q] at e; cases e
  | some j =>
    unfold L2.ixN at q
    split at q
    · split at q
      · have := Option.some.inj q
        rw [← this]
        simp
      · cases q
    · omega
end L3
namespace L3
theorem pickG {α : Type} {l : List α} {x : Int} {Q : α → Prop} (h0 : 0 ≤ x) (h1 : x < l.length) (h : ∀ d ∈ l, Q d) : gets (L2.atI l x) (b := ⟨Q⟩) := by
  obtain ⟨n, rfl⟩ : ∃ n : Nat, x = n := ⟨x.toNat, by omega⟩
  have hn : n < l.length := by omega
  rw [show L2.atI l (n : Int) = some l[n] from by rw [atI_nat]; exact List.getElem?_eq_getElem hn]
  exact h _ (List.getElem_mem hn)
end L3
namespace L3
theorem okM1c {m : MO} {r : MM} : OkM 1 (m :: r) = GrM m := propext (by
  unfold OkM
  constructor
  · intro h
    exact h m (by simp)
  · intro h x hx
    have e : x = m := by simpa using hx
    rw [e]
    exact h)
end L3
namespace L3
theorem r_eq00 {M : MM} {K : Kd} : opI (rEqD' false) (.ls []) (.ls []) M (b := ⟨K⟩) = K (.bl true) M := (r_eqL0 (a := [])).trans (by simp)
theorem r_ne00 {M : MM} {K : Kd} : opI (rEqD' true) (.ls []) (.ls []) M (b := ⟨K⟩) = K (.bl false) M := (r_neL0 (a := [])).trans (by simp)
end L3

namespace L3
open PySem PySem.Spec PyProof.Rows L2 Evl
open Classical

/-! ### classes as values -/
section
variable {X : Cx} {c f m : Str} {e o : Expr} {te to : DE} {pos p apos : Pos}
theorem se_cls (h : ∃ C, X.mg c = some (.ref C)) (hg : Gl X c := by rfl) (hd : (c == ("__debug__" : Str)) = false := by decide) : SE X (.Name c pos) (dC (.cl c)) := by
  obtain ⟨C, h⟩ := h
  exact se_glob (v := .ref C) hg h rfl (fun _ _ => .cl h) hd
/-- e.f, e a class, f a constant of it -/
def dCval (c : Str) (d : D) (t : DE) : DE := fun Γ M K R => t Γ M (fun x M1 => x = .cl c ∧ K d M1) R
structure FCV (K : PySem.W.Frag) (mg : Str → Option Value) (c f : Str) (d : D) : Prop where
  ex : ∃ C mc v u, mg c = some (.ref C) ∧ ClX.CRead K C mc ∧ ClX.CVal K C mc f v u ∧ ∀ A F, Is K mg A F v d
theorem se_cval {d : D} (h : FCV X.K X.mg c f d) (sa : SE X e te) (hb : attributeBase e f X.env (eval e X.env) = eval e X.env := by rfl) : SE X (.Attribute e f pos) (dCval c d te) := fun W tk O F A H σ Γ vs T M K R s lf h' => by
  obtain ⟨C, mc, v, u, hm, cr, cv, i⟩ := h.ex
  refine bE_of (ClX.pe_cval bE_ok hb) ?_
  refine bE_mono (sa W tk O F A H σ Γ vs T M _ R s lf h') fun w H1 ⟨x, M1, F1, A1, s1, ex, k⟩ => ?_
  subst ex
  obtain ⟨a, rfl, ha⟩ := is_cl s1.top
  rw [hm] at ha
  cases ha
  exact ⟨C, mc, v, u, rfl, cr, cv, d, M1, F1, A1, s1.pop.push (i _ _), k⟩
/-! ### an instance made of the class that a name of the def holds -/
def dMkL (i : Nat) (c : Str) (S : DSpec) (dv : List D) (t : DA) : DE := fun Γ M K R => Γ[i]? = some (some (.cl c)) ∧ t Γ M (fun ds M1 => cMk c S (ds ++ dv) M1 K) R
theorem pe_makeL {CX : CXT} {k i : Nat} {C g : Addr} {fd : FuncData} {ps : List Str} {sp : Sp} {dvs : List V} {ds : List Value} {E : XK} {x : Str} {es : List Expr} {t : TA} (Mm : Mk X.K C g) (Fn : FnOk X.prog X.w X.K X.mg X.base CX k g fd ps sp) (hr : Room (k + 1) X.A)
    (hN : X.N[i]? = some x) (hv : Vis X.env.scope x) (hb : Binds X.K fd ps ds) (hd : Vals dvs ds) (hx : Passes CX X E) (ha : PA X (e :: es) t) (hdb : (x == ("__debug__" : Str)) = false) (hcd : (x == ("__classdict__" : Str)) = false)
    (he : starEach (e :: es) X.env = (false, eval e X.env) :: starEach es X.env) (hpl : (backTo pos (starEach es X.env)).any (·.1) = false) : PE X (.Call (.Name x p) (e :: es) [] pos) (fun σ H Q => σ[i]? = some (some (.ref C)) ∧ tMake C sp dvs E t σ H Q) := by
  refine ⟨fun pins s σ H Q I ⟨h1, h2⟩ => ?_⟩
  have ld := (pe_var (pos := p) hN hv hdb hcd).run pins s σ H (fun v H1 => v = .ref C ∧ H1 = H) I ⟨.ref C, h1, rfl, rfl⟩
  refine wpAny_Call_Name_kw (thn ld fun u s1 ⟨v, H1, I1, r1, e1, e2⟩ => ?_)
  subst e1 e2
  cases r1
  have args := ha.run pos pins s1 σ _ _ I1 h2
  exact PySem.W.callWith_K (h₀ := X.base) I.ok.mod.kin Mm.kp (thn args fun us s2 ⟨vs, H2, I2, r, q⟩ => ⟨I2.kIn, run_make Mm Fn hr hb hd hx I2 r q⟩) he hpl
theorem se_mkL {k : Nat} {S : DSpec} {dv : List D} {t : DA} {es : List Expr} {x : Str} (i : Nat) (h : FM X.prog X.w X.K X.mg X.base c k S dv) (hr : Room (k + 1) X.A) (sa : SA X (e :: es) t) (hN : X.N[i]? = some x := by rfl) (hv : Vis X.env.scope x := by first | exact Or.inl rfl | exact Or.inr (Or.inl rfl) | exact Or.inr (Or.inr rfl))
    (hdb : (x == ("__debug__" : Str)) = false := by decide) (hcd : (x == ("__classdict__" : Str)) = false := by decide) (he : starEach (e :: es) X.env = (false, eval e X.env) :: starEach es X.env := by rfl)
    (hpl : (backTo pos (starEach es X.env)).any (·.1) = false := by rfl) : SE X (.Call (.Name x p) (e :: es) [] pos) (dMkL i c S dv t) := fun W tk O F A H σ Γ vs T M K R s lf hh => by
  obtain ⟨C, g, fd, ps, dV, dvs, mk, Fn, hm, b, vl, is⟩ := h.ex
  obtain ⟨hi, hh⟩ := hh
  obtain ⟨v, e1, e2⟩ := s.slot i _ hi
  obtain ⟨a, rfl, ha⟩ := is_cl e2
  rw [hm] at ha
  cases ha
  refine bE_of (pe_makeL (i := i) (E := L2.E0) mk Fn hr hN hv b vl passL bA_ok hdb hcd he hpl) ⟨e1, bA_mono (sa W tk O F A H σ Γ vs T M _ R s lf hh) fun ws H1 ⟨ds, M1, F1, A1, s1, q, k⟩ => ?_⟩
  intro y dy hy hd hne
  exact sp_mk s1 (Paired.app q (is _ _)) hm k hy hd hne
/-! ### C.m(k = v, ..), m a classmethod with keyword-only parameters -/
theorem run_cmK {CX : CXT} {k : Nat} {q g C : Addr} {fd : FuncData} {ps ks : List Str} {sp : Sp} {gg : List Value → List Value → List Value} {gV : List V → List V → List V} {E : L2.St → XK} {σ : L2.St} {pins : List (Addr × Obj)} {H : Hp} {s : Shared} {Q : VK} {ws : List Value} {zs : List V}
    (Fn : FnOk X.prog X.w X.K X.mg X.base CX k g fd ps sp) (hr : Room k X.A) (hb : KBn X.K fd ps 1 ks gg gV) (hx : PassesAt CX X σ (E σ)) (I : Inv X ((q, PySem.W.methodObj (.ref g) (.ref C)) :: pins) σ H s) (rz : Vals zs ws) (l : zs.length = ks.length) (h : sp (gV [.ref C] zs) H Q (E σ)) :
    wpAny (model X.prog X.w) X.A (call (.ref q) [] (ks.zip ws)) (EP X pins σ Q) X.xe s := by
  have r1 : Vals [V.ref C] [Value.ref C] := .cons rfl .nil
  have go := Fn.run X.A X.stack s H ⟨[.ref C], ks.zip ws⟩ (gg [.ref C] ws) (gV [.ref C] zs) Q (E σ) hr I.env0 (hb.to s [.ref C] ws I.kIn rfl (rz.length.symm.trans l)) (hb.rel r1 rz) h
  have z : wpAny (model X.prog X.w) X.A (call (.ref q) [] (ks.zip ws)) (EP X ((q, PySem.W.methodObj (.ref g) (.ref C)) :: pins) σ Q) X.xe s := by
   refine wpAny_call (PySem.W.method_call (ClX.pin_at I) (codeAny_mono go fun r s' hq => ?_))
   cases r with
   | error e => exact hx _ H s e s' I hq
   | ok fl =>
     cases fl with
     | ret u => exact I.after hq
     | _ => exact hq.elim
  exact thn z fun _ _ y => ClX.unpinE y
theorem pe_cmK {CX : CXT} {k : Nat} {C r g : Addr} {mc : Value} {fd : FuncData} {ps ks : List Str} {sp : Sp} {gg : List Value → List Value → List Value} {gV : List V → List V → List V} {E : L2.St → XK} {kws : List Keyword} {ta : TE} {tk : TA} {pl : Sem Bool} (he : PE X o ta) (cr : ClX.CRead X.K C mc) (cm : ClX.CMet X.K C mc m r g)
    (Fn : FnOk X.prog X.w X.K X.mg X.base CX k g fd ps sp) (hr : Room k X.A) (hb : KBn X.K fd ps 1 ks gg gV) (hx : ∀ σ, PassesAt CX X σ (E σ)) (hkw : PK X kws tk) (hall : (backToKw pos (keywordEach kws X.env)).all (·.1.isSome) = true) (hks : (backToKw pos (keywordEach kws X.env)).filterMap (·.1) = ks)
    (hpl : ((backTo pos (starEach [] X.env)).any (·.1) || (backToKw pos (keywordEach kws X.env)).any (·.1.isNone)) = false)
    (ht : eval (.Call (.Attribute o m apos) [] kws pos) X.env = (do
      let ov ← eval o X.env
      standAt apos.atName
      let (f, first) ← holding [ov] (getMethod ov m pl)
      callWith pos f first (backTo pos (starEach [] X.env)) (backToKw pos (keywordEach kws X.env)))) :
    PE X (.Call (.Attribute o m apos) [] kws pos) (fun σ H Q => ta σ H fun x H1 => x = .ref C ∧ tk σ H1 fun zs H2 => zs.length = ks.length ∧ sp (gV [.ref C] zs) H2 Q (E σ)) := by
  refine ⟨fun pins s σ H Q I h => ?_⟩
  have obj := he.run pins s σ H _ I h
  refine PySem.W.methodCall_KW (pl := pl) (thn obj fun u s1 ⟨x, H1, I1, rx, ex, q⟩ => ?_) ht
  subst ex
  cases (show u = Value.ref C from rx)
  refine ClX.getmethcm_ok I1 cr cm fun s2 I2 => ?_
  have kwr := hkw.run pos _ s2 σ H1 _ I2 q
  refine PySem.W.callWith_of (P := PySem.W.MethP X.K s1.heap.objs.size g (.ref C)) hpl (PySem.W.keeps_M cm.fi) (PyProof.Rows.evalArgs_kw2_nil hall (thn kwr fun ws s3 ⟨zs, H2, I3, rz, l, q2⟩ => ⟨⟨ClX.pin_at I3, I3.kIn⟩, ?_⟩))
  rw [hks]
  exact run_cmK Fn hr hb (hx σ) I3 rz l q2
structure FCM (P : Program) (w : World) (K : PySem.W.Frag) (mg : Str → Option Value) (base : Heap) (c m : Str) (k : Nat) (S : DSpec) (ks : List Str) (gD : List D → List D) : Prop where
  ex : ∃ C mc r g fd ps gg gV, mg c = some (.ref C) ∧ ClX.CRead K C mc ∧ ClX.CMet K C mc m r g ∧ FnOk P w K mg base (L2.CX P w) k g fd ps (spOf K mg S) ∧ KBn K fd ps 1 ks gg gV ∧ ∀ {A F zs es}, IsL K mg A F zs es → IsL K mg A F (gV [.ref C] zs) (gD es)
def dCM (c : Str) (ck : CK) (gD : List D → List D) (n : Nat) (t : DE) (u : DA) : DE := fun Γ M K R => t Γ M (fun x M1 => x = .cl c ∧ u Γ M1 (fun es M2 => es.length = n ∧ ck Γ (gD es) M2 K R) R) R
theorem se_cmK {k n : Nat} {S : DSpec} {ck : CK} {ks : List Str} {gD : List D → List D} {kws : List Keyword} {u : DA} {pl : Sem Bool} (h : FCM X.prog X.w X.K X.mg X.base c m k S ks gD) (cc : CallK X S ck) (hr : Room k X.A) (so : SE X o to) (sk : SK X kws u)
    (hall : (backToKw pos (keywordEach kws X.env)).all (·.1.isSome) = true := by rfl) (hks : (backToKw pos (keywordEach kws X.env)).filterMap (·.1) = ks := by rfl)
    (hpl : ((backTo pos (starEach [] X.env)).any (·.1) || (backToKw pos (keywordEach kws X.env)).any (·.1.isNone)) = false := by rfl)
    (ht : eval (.Call (.Attribute o m apos) [] kws pos) X.env = (do
      let ov ← eval o X.env
      standAt apos.atName
      let (f, first) ← holding [ov] (getMethod ov m pl)
      callWith pos f first (backTo pos (starEach [] X.env)) (backToKw pos (keywordEach kws X.env))) := by rfl) (hn : ks.length = n := by rfl) : SE X (.Call (.Attribute o m apos) [] kws pos) (dCM c ck gD n to u) := fun W tk O F A H σ Γ vs T M K R s lf hh => by
  subst hn
  obtain ⟨C, mc, r, g, fd, ps, gg, gV, hm, cr, cm, Fn, b, is⟩ := h.ex
  refine bE_of (pe_cmK (E := WE W) bE_ok cr cm Fn hr b (fun σ => passAt tk σ) bK_ok hall hks hpl ht) ?_
  refine bE_mono (so W tk O F A H σ Γ vs T M _ R s lf hh) fun v H1 ⟨d, M1, F1, A1, s1, e1, k1⟩ => ?_
  subst e1
  obtain ⟨a, rfl, ha⟩ := is_cl s1.top
  rw [hm] at ha
  cases ha
  refine ⟨rfl, bK_mono (sk W tk O F1 A1 H1 σ Γ vs T M1 _ R s1.pop lf k1) fun zs H2 ⟨ds, M2, F2, A2, s2, q2, l, k2⟩ => ⟨q2.len.trans l, cc.go s2 lf (is q2) k2⟩⟩
end
end L3
namespace L3
open PySem PySem.Spec PyProof.Rows L2 Evl
open Classical
/-! ### == and != by an own __eq__ -/
/-- the text of an own class over object with __eq__ and no __ne__ -/
def neTextB (K : PySem.W.Frag) (C : Addr) : Bool := match K.lookup C with
  | some ⟨.type "type", _, .cls cd, sl⟩ => decide (cd.mro = [.ref C, .type "object"]) && (!cd.hasDel && (match sl.toList with
    | [_, _, _, _, some (.builtin n), _] => (match K.lookup cd.ns with
      | some ⟨_, _, .dict es _, _⟩ => es.toList.all (fun e => match e.key with | .str _ _ => true | _ => false) && (match nsFind es "__eq__" with
        | some (.ref f) => decide (f = He.ma K C "__eq__") && ((match nsFind es "__ne__" with | none => true | _ => false) && (match K.lookup f with
          | some ⟨.type "function", _, _, _⟩ => true
          | _ => false))
        | _ => false)
      | _ => false)
    | _ => false))
  | _ => false
theorem neText_ok {K : PySem.W.Frag} {C : Addr} (h : neTextB K C = true) : ∃ nm q N bs hd sn sub ab col dd k0 k1 k2 k3 k5 n oN es ep of, K.lookup C = some (excClassObj nm q C N bs [.type "object"] hd sn sub ab col dd k0 k1 k2 k3 k5 n) ∧ K.lookup N = some oN ∧ oN.data = .dict es ep ∧ StrKeys es ∧
    nsFind es "__eq__" = some (.ref (He.ma K C "__eq__")) ∧ nsFind es "__ne__" = none ∧ K.lookup (He.ma K C "__eq__") = some of ∧ of.cls = .type "function" := by
  unfold neTextB at h
  split at h
  · rename_i dd cd sl hC
    simp only [Bool.and_eq_true, decide_eq_true_eq, Bool.not_eq_true'] at h
    obtain ⟨hm, hd, h⟩ := h
    split at h
    · rename_i k0 k1 k2 k3 n k5 hs
      split at h
      · rename_i c1 d1 es ep sl1 hN
        rw [Bool.and_eq_true, List.all_eq_true] at h
        obtain ⟨hk, h⟩ := h
        split at h
        · rename_i f hf
          simp only [Bool.and_eq_true, decide_eq_true_eq] at h
          obtain ⟨rfl, h1, h2⟩ := h
          obtain ⟨nm, bs, mro, ns, qn, hd', sn, sub, ab, col, del⟩ := cd
          dsimp only at hm hd hN
          subst hm hd
          have hsl : sl = #[k0, k1, k2, k3, some (.builtin n), k5] := by
            obtain ⟨l⟩ := sl
            simp only at hs
            rw [hs]
          subst hsl
          have h1 : nsFind es "__ne__" = none := by
            cases e : nsFind es "__ne__" with
            | none => rfl
            | some v => rw [e] at h1; cases h1
          split at h2
          · rename_i d2 dt2 sl2 hF
            refine ⟨nm, qn, ns, bs, hd', sn, sub, ab, col, dd, k0, k1, k2, k3, k5, n, _, es, ep, _, hC, hN, rfl, fun e he => ?_, hf, h1, hF, rfl⟩
            have := hk e (by simpa using he)
            split at this
            · rename_i a b e2
              exact ⟨a, b, e2⟩
            · cases this
          · cases h2
        · cases h
      · cases h
    · cases h
  · cases h
end L3
namespace L3
open PySem PySem.Spec PyProof.Rows L2 Evl
open Classical
structure FEq (P : Program) (w : World) (K : PySem.W.Frag) (mg : Str → Option Value) (base : Heap) (c : Str) (k : Nat) (S : DSpec) : Prop where
  ex : ∃ C fd ps, mg c = some (.ref C) ∧ neTextB K C = true ∧ Meth K C "__eq__" (He.ma K C "__eq__") ∧ FnOk P w K mg base (L2.CX P w) k (He.ma K C "__eq__") fd ps (spOf K mg S) ∧ Binds K fd ps []
def rEqOwn (neg : Bool) (c : Str) (S : DSpec) : DO2 := fun x y M K => (∃ ns l, x = .ob c ns l) ∧ (∃ ns l, y = .ob c ns l) ∧ cQ S [x, y] M (fun d M' => ∃ b, d = .bl b ∧ K (.bl (if neg then !b else b)) M')
/-- an operation whose answer is seen to be a truth -/
def OpDB (X : Cx) (f : Value → Value → Sem Value) (r : DO2) : Prop := ∀ O F A H σ Γ vs T M K v1 v2 d1 d2, StOk X O F A H σ Γ vs T M → Is X.K X.mg A F v1 d1 → Is X.K X.mg A F v2 d2 → r d1 d2 M K → bO X f v1 v2 H (Post X O σ Γ vs T fun d M' => (∃ b, d = .bl b) ∧ K d M')
theorem OpDB.op {X : Cx} {f : Value → Value → Sem Value} {r : DO2} (h : OpDB X f r) : OpD X f r := fun O F A H σ Γ vs T M K v1 v2 d1 d2 s i1 i2 q =>
  bO_mono (h O F A H σ Γ vs T M K v1 v2 d1 d2 s i1 i2 q) fun v H' ⟨d, M', F', A', s', _, k⟩ => ⟨d, M', F', A', s', k⟩
theorem st_cmpB {X : Cx} {a b : Expr} {ta tb : DE} {pos : Pos} {op : CmpOp} {r : DO2} (ho : OpDB X (compareOp op) r) (sa : SE X a ta) (sb : SE X b tb) (hm : behindInMarks op b = false := by first | exact nomark _ | rfl) : ST X (.Compare a [op] [b] pos) (qTru (dOp r ta tb)) := fun W tk O F A H σ Γ vs T M K R s lf h => by
  refine bT_of (pt_cmpR bO_ok bE_ok bE_ok hm) ?_
  refine bE_mono (sa W tk O F A H σ Γ vs T M _ R s lf h) fun v1 H1 ⟨d1, M1, F1, A1, s1, h1⟩ => ?_
  refine bE_mono (sb W tk O F1 A1 H1 σ Γ (v1 :: vs) (d1 :: T) M1 _ R s1 lf.pop h1) fun v2 H2 ⟨d2, M2, F2, A2, s2, h2⟩ => ?_
  refine bO_mono (ho O F2 A2 H2 σ Γ vs T M2 _ v1 v2 d1 d2 s2.pop.pop s2.pop.top s2.top h2) fun v H3 ⟨d, M3, F3, A3, s3, ⟨b', e⟩, c', hc, k⟩ => ?_
  subst e
  cases hc
  exact ⟨b', is_bl s3.top, M3, F3, A3, s3.pop, k⟩
theorem opd_eqOwn {X : Cx} {c : Str} {k : Nat} {S : DSpec} (h : FEq X.prog X.w X.K X.mg X.base c k S) (hr : Room k X.A) : OpDB X (compareOp .Eq) (rEqOwn false c S) := by
  intro O F A H σ Γ vs T M K v1 v2 d1 d2 s i1 i2 ⟨⟨ns, l, e1⟩, ⟨ns2, l2, e2⟩, hq⟩
  subst e1; subst e2
  obtain ⟨C, fd, ps, hm, ht, hme, Fn, b⟩ := h.ex
  obtain ⟨a, C1, dx, fs, rfl, hm1, hF1, _, _⟩ := is_ob i1
  obtain ⟨a2, C2, dx2, fs2, rfl, hm2, hF2, _, _⟩ := is_ob i2
  rw [hm] at hm1 hm2
  cases hm1; cases hm2
  refine ⟨fun pins st σ' v u I r1 r2 => ?_⟩
  cases (show v = Value.ref a from r1)
  cases (show u = Value.ref a2 from r2)
  obtain ⟨mA, OA, _⟩ := ins_get I.hok (s.exH _ _ hF1)
  obtain ⟨mB, OB, _⟩ := ins_get I.hok (s.exH _ _ hF2)
  obtain ⟨od, IA, _⟩ := OA.look
  obtain ⟨od2, IB, _⟩ := OB.look
  obtain ⟨m, hF⟩ := I.fr
  have hn : PySem.W.notFirst X.K C (.ref C) = true := by unfold PySem.W.notFirst; simp
  show wpAny _ _ (richCompare .Eq (.ref a) (.ref a2)) _ _ _
  refine PySem.W.cmp_K (op := .Eq) (tb := .ref C) hr.units0 hF I.ok.mod.kin IA IB.type hn hme.at_ hme.fn ?_
  refine thn (run_fn (E := L2.E0) (us := [.ref a, .ref a2]) (vs := [.ref a, .ref a2]) Fn hr b .nil passL I (.cons rfl (.cons rfl .nil)) (sp_q s (.cons i1 (.cons i2 .nil)) hq)) fun r s' hr' => ?_
  refine cmpBack ?_
  obtain ⟨x, H', I', rx, d, M', F', A', s2, b', rfl, kk⟩ := hr'
  exact ⟨x, H', I', rx, .bl b', M', F', A', s2, ⟨_, rfl⟩, kk⟩
/-- a def called by a builtin -/
theorem run_in1 {X : Cx} {k : Nat} {f : Addr} {fd : FuncData} {ps : List Str} {sp : Sp} {pins : List (Addr × Obj)} {σ : L2.St} {H : Hp} {s : Shared} {Q : VK} {us : List Value} {vs : List V} (Fn : FnOk X.prog X.w X.K X.mg X.base (L2.CX X.prog X.w) k f fd ps sp) (hr : Room (k + 1) X.A) (hb : Binds X.K fd ps []) (I : Inv X pins σ H s) (r : Vals vs us)
    (h : sp vs H Q L2.E0) : wpAny (model X.prog X.w) X.A.in1 (call (.ref f) us) (EP X pins σ Q) X.xe s := by
  have hl : (us ++ []).length = ps.length := by rw [List.append_nil, ← r.length]; exact Fn.len _ _ _ _ h
  refine wpAny_call (codeAny_mono (Fn.run X.A.in1 X.stack s H ⟨us, []⟩ (us ++ []) vs Q L2.E0 hr.in1 I.env0.in1 (hb s us I.kIn hl) (by rw [List.append_nil]; exact r) h) fun z s' hz => ?_)
  cases z with
  | error e => exact passL (X := X) pins σ H s e s' I hz
  | ok fl =>
    cases fl with
    | ret u => exact I.after hz
    | _ => exact hz.elim
theorem opd_neOwn {X : Cx} {c : Str} {k : Nat} {S : DSpec} (h : FEq X.prog X.w X.K X.mg X.base c k S) (hr : Room (k + 1) X.A) : OpDB X (compareOp .NotEq) (rEqOwn true c S) := by
  intro O F A H σ Γ vs T M K v1 v2 d1 d2 s i1 i2 ⟨⟨ns, l, e1⟩, ⟨ns2, l2, e2⟩, hq⟩
  subst e1; subst e2
  obtain ⟨C, fd, ps, hm, ht, hme, Fn, bi⟩ := h.ex
  obtain ⟨a, C1, dx, fs, rfl, hm1, hF1, _, _⟩ := is_ob i1
  obtain ⟨a2, C2, dx2, fs2, rfl, hm2, hF2, _, _⟩ := is_ob i2
  rw [hm] at hm1 hm2
  cases hm1; cases hm2
  refine ⟨fun pins st σ' v u I r1 r2 => ?_⟩
  cases (show v = Value.ref a from r1)
  cases (show u = Value.ref a2 from r2)
  obtain ⟨mA, OA, _⟩ := ins_get I.hok (s.exH _ _ hF1)
  obtain ⟨mB, OB, _⟩ := ins_get I.hok (s.exH _ _ hF2)
  obtain ⟨od, IA, _⟩ := OA.look
  obtain ⟨od2, IB, _⟩ := OB.look
  obtain ⟨nm, q, N, bs, hd, sn, sub, ab, col, dd, k0, k1, k2, k3, k5, n, oN, es, ep, of, hC, hN, hes, hk, hf, hne, hof, hoc⟩ := neText_ok ht
  have KX := I.kIn
  have ns : st.heap.Ns N (nsFind es) := ⟨oN, es, ep, KX _ _ hN, hes, hk, fun _ => rfl⟩
  have Y : st.heap.OwnEqNoNe a C (He.ma X.K C "__eq__") "object" [.type "object"] := ⟨_, of, nm, q, N, bs, hd, sn, sub, ab, col, dd, k0, k1, k2, k3, k5, n, nsFind es, _, IA.at_, IA.cls, KX _ _ hC, ns, hf, KX _ _ hof, hoc, PySem.F.cmp_object.mro, PySem.F.cmp_object.eq.lookup, hne⟩
  have back : ∀ u s', EP X pins σ' (Post X O σ Γ vs T fun d M' => ∃ b, d = .bl b ∧ K (.bl (if true then !b else b)) M') u s' → ∃ b, u = .bool b ∧ EP X pins σ' (Post X O σ Γ vs T fun d M' => (∃ b, d = .bl b) ∧ K d M') (.bool (!b)) s' := by
    rintro u s' ⟨x, H', I', rx, d, M', F', A', s2, b', rfl, kk⟩
    cases is_bl s2.top
    cases (show u = Value.bool b' from rx)
    exact ⟨b', rfl, .bl (!b'), H', I', rfl, .bl (!b'), M', F', A', s2.pop.push (.bl _), ⟨_, rfl⟩, kk⟩
  have go := thn (run_in1 (us := [.ref a, .ref a2]) (vs := [.ref a, .ref a2]) Fn hr bi I (.cons rfl (.cons rfl .nil)) (sp_q s (.cons i1 (.cons i2 .nil)) hq)) back
  have hu : X.A.units + 1 < cLine := by have := hr.un; omega
  obtain ⟨hh, g, dr, t, os⟩ := st
  exact compareOp_ne_ownEq PySem.F.cmp_object Y IB.at_ IB.cls hu go
end L3

namespace L3
open PySem PySem.Spec PyProof.Rows L2 Evl
open Classical

/-! ### isinstance with an own class -/
structure FIsi (K : PySem.W.Frag) (mg : Str → Option Value) (c : Str) : Prop where
  ex : ∃ C, mg c = some (.ref C) ∧ Cls K C ∧ PySem.W.findIn K (.ref C) "__class__" = some (some (.builtin "object.__class__")) ∧ PySem.W.specialIn K (.builtin "object.__class__") "__get__" = some (some (.builtin "getset_descriptor.__get__")) ∧ PySem.W.takesIn K (.builtin "object.__class__") = some true ∧ PySem.W.mroIn K C (.type "object") = some true
def rIsiO (c : Str) : DC := fun ds M K => match ds with
  | [.ob c1 _ _, .cl c2] => c1 = c ∧ c2 = c ∧ K (.bl true) M
  | _ => False
theorem cd_isiO {X : Cx} {c : Str} (h : FIsi X.K X.mg c) : CallD X (.builtin "isinstance") (rIsiO c) := by
  intro O F A H σ Γ vs T M K ws ds s p q
  match ds, p, q with
  | [.ob c1 ns l, .cl c2], .cons i1 (.cons i2 .nil), ⟨e1, e2, k⟩ =>
    subst e1 e2
    obtain ⟨C, hm, hc, h1, h2, h3, h4⟩ := h.ex
    obtain ⟨a, C1, dx, fs, rfl, hm1, hF, _, _⟩ := is_ob i1
    obtain ⟨a2, rfl, hm2⟩ := is_cl i2
    rw [hm] at hm1 hm2
    cases hm1
    cases hm2
    have e : PySem.W.kitOne X.K (.ref C) (.ref C) = some true := by unfold PySem.W.kitOne; simp
    exact ⟨_, call_isi, _, _, .ref C, .ref C, true, rfl, .own C, .base (.ins (s.exH _ _ hF) hc h1 h2 h3 h4), e, post_c s (.bl _) k⟩
/-! ### is, is not of truths -/
def rIsBl (neg : Bool) : DO2 := fun x y M K => match x, y with
  | .bl a, .bl b => K (.bl (if neg then !decide (a = b) else decide (a = b))) M
  | _, _ => False
theorem opd_isBl {X : Cx} : OpDB X (compareOp .Is) (rIsBl false) := by
  intro O F A H σ Γ vs T M K v1 v2 d1 d2 s i1 i2 q
  match d1, d2, i1, i2, q with
  | .bl a, .bl b, i1, i2, q =>
    rw [is_bl i1, is_bl i2]
    exact bO_of op_isBl ⟨a, b, rfl, rfl, post_c s (.bl _) ⟨⟨_, rfl⟩, q⟩⟩
theorem opd_notBl {X : Cx} : OpDB X (compareOp .IsNot) (rIsBl true) := by
  intro O F A H σ Γ vs T M K v1 v2 d1 d2 s i1 i2 q
  match d1, d2, i1, i2, q with
  | .bl a, .bl b, i1, i2, q =>
    rw [is_bl i1, is_bl i2]
    exact bO_of op_notBl ⟨a, b, rfl, rfl, post_c s (.bl _) ⟨⟨_, rfl⟩, q⟩⟩
/-! ### a dict of the module, texts to texts -/
def lookT (k : List Nat) : List (List Nat × List Nat) → Option (List Nat)
  | [] => none
  | (a, b) :: r => if a = k then some b else lookT k r
structure FTab (K : PySem.W.Frag) (w : World) (mg : Str → Option Value) (x : Str) (kvs : List (List Nat × List Nat)) : Prop where
  ex : ∃ d es n, mg x = some (.ref d) ∧ KDict K w d es n ∧ ∀ k v, lookT k kvs = some v → Asc v ∧ ∃ u, PySem.W.nsIn K d (SS k) = some (some u) ∧ RelV (.str (SS v)) u
def dTab (kvs : List (List Nat × List Nat)) (t : DE) : DE := fun Γ M K R => t Γ M (fun d M1 => match d with
  | .str k => ∃ v, lookT k kvs = some v ∧ K (.str v) M1
  | _ => False) R
theorem e_tab {kvs : List (List Nat × List Nat)} {t : DE} {Γ : G} {M : MM} {K : Kd} {R : Rx} : dTab kvs t Γ M K R = t Γ M (fun d M1 => onS d (b := ⟨fun k => gets (lookT k kvs) (b := ⟨fun v => K (.str v) M1⟩)⟩)) R := by
  unfold dTab
  congr
  funext d M1
  cases d with
  | str k => exact gets_ex
  | _ => rfl
theorem pe_kd {X : Cx} {d : Addr} {es : Array DictEntry} {n : Nat} {o i : Expr} {td ty : TE} {pos : Pos} (D : KDict X.K X.w d es n) (ho : PE X o td) (hi : PE X i ty) (hs : NoSl i) :
    PE X (.Subscript o i pos) (fun σ H Q => td σ H fun x H1 => ty σ H1 fun y H2 => x = .ref d ∧ ∃ (z : Str) (u0 : Value) (v0 : V), y = .str z ∧ PySem.W.nsIn X.K d z = some (some u0) ∧ RelV v0 u0 ∧ Q v0 H2) := by
  refine ⟨fun pins s σ H Q I h => ?_⟩
  have first := ho.run pins s σ H _ I h
  refine subD_of PySem.F.slot_dict_getitem.lookup hs (thn first fun u s1 ⟨x, H1, I1, rx, q1⟩ => thn (hi.run pins s1 σ H1 _ I1 q1) fun iv s2 ⟨y, H2, I2, ry, ex, z, u0, v0, ey, hn, rv, q2⟩ => ?_)
  subst ex
  cases (show u = Value.ref d from rx)
  exact ⟨kd_type D I2, op_item_kd D pins s2 σ H2 (.ref d) y (.ref d) iv _ I2 rfl ry ⟨z, u0, v0, rfl, ey, hn, rv, q2⟩⟩
theorem se_tab {X : Cx} {x : Str} {kvs : List (List Nat × List Nat)} {b : Expr} {tb : DE} {p pos : Pos} (h : FTab X.K X.w X.mg x kvs) (sb : SE X b tb) (hg : Gl X x := by rfl) (hs : NoSl b := by exact fun _ _ => rfl) (hd : (x == ("__debug__" : Str)) = false := by decide) : SE X (.Subscript (.Name x p) b pos) (dTab kvs tb) := fun W tk O F A H σ Γ vs T M K R s lf hh => by
  obtain ⟨d, es, n, hm, kd, hv⟩ := h.ex
  refine bE_of (pe_kd kd (pe_glob (v := .ref d) hg hm rfl hd) bE_ok hs) ?_
  refine bE_mono (sb W tk O F A H σ Γ vs T M _ R s lf hh) fun v H1 ⟨k, M1, F1, A1, s1, kk⟩ => ?_
  cases k with
  | str l =>
    obtain ⟨v2, hl, kk⟩ := kk
    obtain ⟨ha, u, hn, rv⟩ := hv l v2 hl
    exact ⟨rfl, SS l, u, .str (SS v2), is_str s1.top, hn, rv, .str v2, M1, F1, A1, s1.pop.push (.str v2 ha), kk⟩
  | _ => exact kk.elim
end L3

namespace L3
open PySem PySem.Spec PyProof.Rows L2 Evl
open Classical

/-! ### the head: facts, defs anywhere, tables, more checks -/
abbrev Chk := PySem.W.Frag → Bool
abbrev AlY : Type := (Bool × List He.FnW) × List (Option (List (Option (Str × Int))))
def lookY (fa : List He.Fa) (fn : List He5.DefA) (ts : List (Str × List Str)) (ex : List Chk) (K : PySem.W.Frag) : AlY :=
  (((fa.all fun f => f.ok K) && ((fn.all fun d => d.ok K) && (ex.all fun e => e K)), fn.map fun d => He5.fnA K (d.at_ K)), ts.map fun t => He.dicW K (He.ga K t.1))
def saidY (fn : List He5.DefA) (ts : List (Str × List Str)) (w : World) : AlY := ((true, fn.map He5.DefA.val), ts.map fun t => some (He.keysIn w.params t.2))
def seeY (n : Nat) (fa : List He.Fa) (fn : List He5.DefA) (ts : List (Str × List Str)) (ex : List Chk) (g : Addr → Option Obj) : AlY := lookY fa fn ts ex (He.frG g (He5.asA g n))
def hookY (n : Nat) (fa : List He.Fa) (fn : List He5.DefA) (ts : List (Str × List Str)) (ex : List Chk) : PySem.W.Hook where
  α := AlY
  obs := fun s => seeY n fa fn ts ex s.heap.get?
  val := fun w => saidY fn ts w
  says := fun w h => ∃ K : PySem.W.Frag, K.In h ∧ lookY fa fn ts ex K = saidY fn ts w
  of := fun _ _ e => ⟨_, He.frG_in, e⟩
  keeps := fun _ _ _ ⟨K, hK, c⟩ k => ⟨K, PySem.W.Frag.In.keeps hK k, c⟩
theorem seeY_eq {n : Nat} {fa : List He.Fa} {fn : List He5.DefA} {ts : List (Str × List Str)} {ex : List Chk} {g : Addr → Option Obj} {s : Shared} (h : ∀ a, g a = s.heap.get? a) : seeY n fa fn ts ex g = (hookY n fa fn ts ex).obs s := by
  have e : g = s.heap.get? := funext h
  rw [e] <;> rfl
section
variable {fa : List He.Fa} {fn : List He5.DefA} {ts : List (Str × List Str)} {ex : List Chk} {w : World} {K : PySem.W.Frag}
theorem y_all (c : lookY fa fn ts ex K = saidY fn ts w) : (fa.all fun f => f.ok K) = true ∧ (fn.all fun d => d.ok K) = true ∧ (ex.all fun e => e K) = true := by
  have c1 : ((fa.all fun f => f.ok K) && ((fn.all fun d => d.ok K) && (ex.all fun e => e K))) = true := congrArg (fun z : AlY => z.1.1) c
  simpa only [Bool.and_eq_true] using c1
theorem y_fact (c : lookY fa fn ts ex K = saidY fn ts w) (i : Nat) {f : He.Fa} (h : fa[i]? = some f := by rfl) : f.ok K = true := List.all_eq_true.mp (y_all c).1 f (List.mem_of_getElem? h)
theorem y_chk (c : lookY fa fn ts ex K = saidY fn ts w) (i : Nat) {f : Chk} (h : ex[i]? = some f := by rfl) : f K = true := List.all_eq_true.mp (y_all c).2.2 f (List.mem_of_getElem? h)
theorem y_def (c : lookY fa fn ts ex K = saidY fn ts w) (i : Nat) {d : He5.DefA} (h : fn[i]? = some d := by rfl) : ∃ fd, L2.FunD K d.name d.qual d.params d.body d.scope (d.dvs K) (d.kws K) (d.at_ K) fd := by
  have e : fn.map (fun d => He5.fnA K (d.at_ K)) = fn.map He5.DefA.val := congrArg (fun z : AlY => z.1.2) c
  have e2 : (fn.map fun d => He5.fnA K (d.at_ K))[i]? = (fn.map He5.DefA.val)[i]? := by rw [e]
  rw [List.getElem?_map, List.getElem?_map, h] at e2
  exact He5.DefA.funD (Option.some.inj e2) (List.all_eq_true.mp (y_all c).2.1 d (List.mem_of_getElem? h))
theorem y_tab (c : lookY fa fn ts ex K = saidY fn ts w) (i : Nat) {t : Str × List Str} (h : ts[i]? = some t := by rfl) : ∃ es n, KDict K w (He.ga K t.1) es n := by
  have e : ts.map (fun t => He.dicW K (He.ga K t.1)) = ts.map fun t => some (He.keysIn w.params t.2) := congrArg (fun z : AlY => z.2) c
  have e2 : (ts.map fun t => He.dicW K (He.ga K t.1))[i]? = (ts.map fun t => some (He.keysIn w.params t.2))[i]? := by rw [e]
  rw [List.getElem?_map, List.getElem?_map, h] at e2
  exact He.dicW_ok (Option.some.inj e2)
end
/-! ### checks -/
/-- C.f is a property -/
def propB (c f : Str) : Chk := fun K => He.eqO (PySem.W.findIn K (.ref (He.ga K c)) f) (some (some (.ref (He.ma K (He.ga K c) f)))) && (He.eqO (PySem.W.specialIn K (.ref (He.ma K (He.ga K c) f)) "__get__") (some (some (.builtin "property.__get__"))) &&
  (decide (PySem.W.takesIn K (.ref (He.ma K (He.ga K c) f)) = some true) && (match PySem.W.recIn K (He.ma K (He.ga K c) f) "property" with
    | some (.ref _ :: _) => true
    | _ => false)))
theorem propB_ok {K : PySem.W.Frag} {c f : Str} (h : propB c f K = true) : PropOf K (He.ga K c) f (He.ma K (He.ga K c) f) (He5.wf K (He.ga K c) "property" f) := by
  unfold propB at h
  simp only [Bool.and_eq_true, decide_eq_true_eq] at h
  obtain ⟨h1, h2, h3, h4⟩ := h
  refine ⟨He.eqO_ok h1, He.eqO_ok h2, h3, ?_⟩
  unfold He5.wf
  split at h4
  · rename_i g r e
    exact ⟨r, by rw [e]⟩
  · cases h4
/-- attributes of the class are read as usual -/
def creadB (c : Str) : Chk := fun K => PySem.W.readsIn K (He.ga K c) (.type "type") && He.eqO (PySem.W.specialIn K (.ref (He.ga K c)) "__getattribute__") (some (some (.builtin "type.__getattribute__")))
theorem creadB_ok {K : PySem.W.Frag} {c : Str} (h : creadB c K = true) : ClX.CRead K (He.ga K c) (.type "type") := by
  unfold creadB at h
  rw [Bool.and_eq_true] at h
  exact ⟨h.1, He.eqO_ok h.2⟩
def cmB (c m : Str) : Chk := fun K => He5.wrapB K (He.ga K c) "classmethod" "classmethod.__get__" m && PySem.W.fnIn K (He5.wf K (He.ga K c) "classmethod" m)
theorem cmB_ok {K : PySem.W.Frag} {c m : Str} (h : cmB c m K = true) : ClX.CMet K (He.ga K c) (.type "type") m (He.ma K (He.ga K c) m) (He5.wf K (He.ga K c) "classmethod" m) := by
  unfold cmB at h
  rw [Bool.and_eq_true] at h
  exact He5.cmet_of h.1 h.2
/-- C.f is a written tuple of texts -/
def tupTB (c f : Str) (l : List (List Nat)) : Chk := fun K => match PySem.W.findCls K (.ref (He.ga K c)) (.type "type") f with
  | some (.val (.ref a)) => (match K.lookup a with
    | some ⟨.type t, _, .seq its _, _⟩ => decide (t = "tuple") && (decide (its.size ≤ sizeLine) && He.relAll (l.map fun s => V.str (SS s)) its.toList)
    | _ => false)
  | _ => false
theorem tupTB_ok {K : PySem.W.Frag} {mg : Str → Option Value} {c f : Str} {l : List (List Nat)} (h : tupTB c f l K = true) (hc : mg c = some (.ref (He.ga K c))) (cr : ClX.CRead K (He.ga K c) (.type "type")) (ha : ∀ s ∈ l, Asc s) : FCV K mg c f (.tp (l.map .str)) := by
  unfold tupTB at h
  split at h
  · rename_i a e
    split at h
    · rename_i t od its n sl hl
      simp only [Bool.and_eq_true, decide_eq_true_eq] at h
      obtain ⟨h1, h2, h3⟩ := h
      subst h1
      refine ⟨He.ga K c, .type "type", .ref a, .ref a, hc, cr, ⟨e, rfl⟩, fun A F => ?_⟩
      have q : SqT K F a (l.map fun s => V.str (SS s)) := .inr ⟨_, its, n, hl, rfl, rfl, h2, He.relAll_ok h3⟩
      have e2 : (l.map fun s => V.str (SS s)) = (l.map SS).map V.str := by rw [List.map_map]; rfl
      rw [e2] at q
      exact .tpL q (isL_of_strs l ha)
    · cases h
  · cases h
/-- isinstance of instances of the class -/
def isiB (c : Str) : Chk := fun K => He.eqO (PySem.W.findIn K (.ref (He.ga K c)) "__class__") (some (some (.builtin "object.__class__"))) && (He.eqO (PySem.W.specialIn K (.builtin "object.__class__") "__get__") (some (some (.builtin "getset_descriptor.__get__"))) &&
  (decide (PySem.W.takesIn K (.builtin "object.__class__") = some true) && decide (PySem.W.mroIn K (He.ga K c) (.type "object") = some true)))
theorem isiB_ok {K : PySem.W.Frag} {mg : Str → Option Value} {c : Str} (h : isiB c K = true) (hm : mg c = some (.ref (He.ga K c))) (hc : Cls K (He.ga K c)) : FIsi K mg c := by
  unfold isiB at h
  simp only [Bool.and_eq_true, decide_eq_true_eq] at h
  obtain ⟨h1, h2, h3, h4⟩ := h
  exact ⟨_, hm, hc, He.eqO_ok h1, He.eqO_ok h2, h3, h4⟩
def selfB (c : Str) : Chk := fun K => PySem.W.selfFirst K (He.ga K c)
def neB (c : Str) : Chk := fun K => neTextB K (He.ga K c)
/-- the table's values -/
def tabB (x : Str) (kvs : List (List Nat × List Nat)) : Chk := fun K => kvs.all fun q => match PySem.W.nsIn K (He.ga K x) (SS q.1) with
  | some (some u) => He.relB (.str (SS q.2)) u
  | _ => false
theorem tabB_ok {K : PySem.W.Frag} {w : World} {mg : Str → Option Value} {x : Str} {kvs : List (List Nat × List Nat)} (h : tabB x kvs K = true) (hm : mg x = some (.ref (He.ga K x))) (kd : ∃ es n, KDict K w (He.ga K x) es n) (ha : ∀ q ∈ kvs, Asc q.2) : FTab K w mg x kvs := by
  obtain ⟨es, n, kd⟩ := kd
  refine ⟨He.ga K x, es, n, hm, kd, ?_⟩
  clear kd hm
  induction kvs with
  | nil => intro k v e; cases e
  | cons q r ih =>
    obtain ⟨a, b⟩ := q
    intro k v e
    have e : (if a = k then some b else lookT k r) = some v := e
    by_cases c : a = k
    · rw [if_pos c] at e
      cases e
      refine ⟨ha (a, b) List.mem_cons_self, ?_⟩
      have := List.all_eq_true.mp h (a, b) List.mem_cons_self
      dsimp only at this
      rw [c] at this
      cases q : PySem.W.nsIn K (He.ga K x) (SS k) with
      | none => rw [q] at this; cases this
      | some o =>
        cases o with
        | none => rw [q] at this; cases this
        | some u =>
          rw [q] at this
          exact ⟨u, rfl, He.relB_ok this⟩
    · rw [if_neg c] at e
      unfold tabB at h
      rw [List.all_cons, Bool.and_eq_true] at h
      exact ih h.2 (fun q hq => ha q (List.mem_cons_of_mem _ hq)) k v e
/-- the statements of a class -/
def clsB : Stmt → List Stmt
  | .ClassDef _ _ _ body _ _ _ _ _ _ _ => body
  | _ => []
end L3
namespace L3
open PySem PySem.Spec PyProof.Rows L2 Evl
open Classical
theorem r_isBl {neg : Bool} {a b : Bool} {M : MM} {K : Kd} : opI (rIsBl neg) (.bl a) (.bl b) M (b := ⟨K⟩) = K (.bl (if neg then !decide (a = b) else decide (a = b))) M := rfl
theorem r_isiO {c : Str} {ns : List Str} {l : List D} {M : MM} {K : Kd} : cbI (rIsiO c) [.ob c ns l, .cl c] M (b := ⟨K⟩) = K (.bl true) M := propext ⟨fun h => h.2.2, fun h => ⟨rfl, rfl, h⟩⟩
/-! ### fields, instances, methods step by step -/
theorem e_fld {c f : Str} {t : DE} {Γ : G} {M : MM} {K : Kd} {R : Rx} : dFld c f t Γ M K R = t Γ M (fun d M1 => match d with
  | .ob c' ns l => c' = c ∧ ∃ v, lkD f ns l = some v ∧ K v M1
  | .cel k => ∃ ns l v, M1[k]? = some (.ob c ns l) ∧ lkD f ns l = some v ∧ K v M1
  | _ => False) R := rfl
def propI (c : Str) (S : DSpec) (d : D) (M : MM) [b : Box Kd] : Prop := (∃ ns l, d = .ob c ns l) ∧ cQ S [d] M b.val
theorem e_prop {c : Str} {S : DSpec} {t : DE} {Γ : G} {M : MM} {K : Kd} {R : Rx} : dProp c S t Γ M K R = t Γ M (fun d M1 => propI c S d M1 (b := ⟨K⟩)) R := rfl
def mkI (c : Str) (S : DSpec) (ds : List D) (M : MM) [b : Box Kd] : Prop := cMk c S ds M b.val
theorem e_mk {c : Str} {S : DSpec} {dv : List D} {t : DA} {Γ : G} {M : MM} {K : Kd} {R : Rx} : dMk c S dv t Γ M K R = t Γ M (fun ds M1 => mkI c S (ds ++ dv) M1 (b := ⟨K⟩)) R := rfl
theorem e_mkL {i : Nat} {c : Str} {S : DSpec} {dv : List D} {t : DA} {Γ : G} {M : MM} {K : Kd} {R : Rx} : dMkL i c S dv t Γ M K R = thenP (Γ[i]? = some (some (.cl c))) (b := ⟨t Γ M (fun ds M1 => mkI c S (ds ++ dv) M1 (b := ⟨K⟩)) R⟩) := rfl
def methI (c m : Str) (S : DSpec) (ds : List D) (M : MM) [b : Box Kd] : Prop := cQ S ds M b.val
theorem e_meth {c m : Str} {S : DSpec} {dv : List D} {to : DE} {t : DA} {Γ : G} {M : MM} {K : Kd} {R : Rx} : dMeth c m S dv to t Γ M K R = to Γ M (fun d M1 => thenP (∃ ns l, d = .ob c ns l ∧ m ∉ ns) (b := ⟨t Γ M1 (fun ds M2 => methI c m S (d :: (ds ++ dv)) M2 (b := ⟨K⟩)) R⟩)) R := rfl
theorem e_cval {c : Str} {d : D} {t : DE} {Γ : G} {M : MM} {K : Kd} {R : Rx} : dCval c d t Γ M K R = t Γ M (fun x M1 => thenP (x = .cl c) (b := ⟨K d M1⟩)) R := rfl
theorem e_cm {c : Str} {ck : CK} {gD : List D → List D} {n : Nat} {t : DE} {u : DA} {Γ : G} {M : MM} {K : Kd} {R : Rx} : dCM c ck gD n t u Γ M K R = t Γ M (fun x M1 => thenP (x = .cl c) (b := ⟨u Γ M1 (fun es M2 => thenP (es.length = n) (b := ⟨callI ck Γ (gD es) M2 (b := ⟨(K, R)⟩)⟩)) R⟩)) R := rfl
def setFI (c f : Str) (o d : D) (Γ : G) (M : MM) [b : Box DEnds] : Prop := match o with
  | .cel k => ∃ ns l, M[k]? = some (.ob c ns l) ∧ ns.length < 1000 ∧ b.val.nx Γ (M.set k (.ob c (putD f d ns l).1 (putD f d ns l).2))
  | _ => False
theorem e_setF {c f : Str} {to te : DE} {E : DEnds} {Γ : G} {M : MM} : dSetF c f to te E Γ M = te Γ M (fun d M1 => to Γ M1 (fun o M2 => setFI c f o d Γ M2 (b := ⟨E⟩)) E.rz) E.rz := by
  unfold dSetF
  have : ∀ (d : D) (M1 : MM), (fun (o : D) (M2 : MM) => setFI c f o d Γ M2 (b := ⟨E⟩)) = _ := fun d M1 => funext fun o => funext fun M2 => by
    unfold setFI
    exact rfl
  congr
def zpI (ds : List D) (M : MM) [b : Box (List D → (MM → Prop) → MM → Prop)] : Prop := ∃ x y, ds = [x, y] ∧ ((∃ l m, lsOf M x = some l ∧ lsOf M y = some m ∧ b.val (zpD l m) (fun M' => lsOf M' x = some l ∧ lsOf M' y = some m) M) ∨
  ∃ l m, tpOf x = some l ∧ tpOf y = some m ∧ b.val (zpD l m) (fun _ => True) M)
theorem e_zp {t : DA} {Γ : G} {M : MM} {Kt : List D → (MM → Prop) → MM → Prop} {R : Rx} : iZp t Γ M Kt R = t Γ M (fun ds M1 => zpI ds M1 (b := ⟨Kt⟩)) R := rfl
theorem zp_tt {l m : List D} {M : MM} {Kt : List D → (MM → Prop) → MM → Prop} (h : Kt (zpD l m) (fun _ => True) M) : zpI [.tp l, .tp m] M (b := ⟨Kt⟩) := ⟨_, _, rfl, .inr ⟨l, m, rfl, rfl, h⟩⟩
theorem zp_ll {l m : List D} {M : MM} {Kt : List D → (MM → Prop) → MM → Prop} (h : Kt (zpD l m) (fun M' => lsOf M' (.ls l) = some l ∧ lsOf M' (.ls m) = some m) M) : zpI [.ls l, .ls m] M (b := ⟨Kt⟩) := ⟨_, _, rfl, .inl ⟨l, m, rfl, rfl, h⟩⟩
/-- enumerate(text, start = k) -/
def enSKI (ds es : List D) (M : MM) [b : Box (List D → (MM → Prop) → MM → Prop)] : Prop := ∃ l k, ds = [.str l] ∧ es = [.int ((k : Nat) : Int)] ∧ k < 1000 ∧ b.val (enS k l) (fun _ => True) M
theorem e_enSK {t u : DA} {Γ : G} {M : MM} {Kt : List D → (MM → Prop) → MM → Prop} {R : Rx} : iEnSK t u Γ M Kt R = t Γ M (fun ds M1 => u Γ M1 (fun es M2 => enSKI ds es M2 (b := ⟨Kt⟩)) R) R := rfl
end L3
namespace L3
open PySem PySem.Spec PyProof.Rows L2 Evl
open Classical
/-- a, b, c = x, y, z -/
def dPar3 (i j l : Nat) (t : DA) : DS := fun E Γ M => t Γ M (fun ds M1 => match ds with
  | [a, b, c] => E.nx (((Γ.set i (some a)).set j (some b)).set l (some c)) M1
  | _ => False) E.rz
theorem ss_par3 {X : Cx} {ta : DA} {pos : Pos} {i j l : Nat} {x y z : Str} {a b c : Expr} {px py pz pt : Pos} {kt k2 : Nat} {pt2 : Pos} (hN : X.N.Nodup) (sa : SA X [a, b, c] ta) (hw : swappedStores [.Tuple [.Name x px, .Name y py, .Name z pz] kt pt] (.Tuple [a, b, c] k2 pt2) X.env = pure (some [x, y, z]) := by rfl) (hc : X.calm = true := by rfl)
    (hi : X.N[i]? = some x := by rfl) (hj : X.N[j]? = some y := by rfl) (hl : X.N[l]? = some z := by rfl) (hij : i ≠ j := by decide) (hil : i ≠ l := by decide) (hjl : j ≠ l := by decide) (hx : X.env.scope.names.lookup x = some .local := by rfl) (hy : X.env.scope.names.lookup y = some .local := by rfl) (hz : X.env.scope.names.lookup z = some .local := by rfl)
    (hs : swapsWithSole [.Tuple [.Name x px, .Name y py, .Name z pz] kt pt] (.Tuple [a, b, c] k2 pt2) pos.line X.env = pure false := by rfl) : SS' X (.Assign [.Tuple [.Name x px, .Name y py, .Name z pz] kt pt] (.Tuple [a, b, c] k2 pt2) pos) (dPar3 i j l ta) := fun W tk O F A H σ Γ vs T M E s lf h =>
  bS_of (ps_par3 (i := i) (j := j) (l := l) hc hN hi hj hl hij hil hjl hx hy hz bA_ok hw hs) (bA_mono (sa W tk O F A H σ Γ vs T M _ _ s lf h) fun ws H1 ⟨ds, M1, F1, A1, s1, p, k⟩ => by
    match ds, p, k with
    | [d1, d2, d3], .cons r1 (.cons r2 (.cons r3 .nil)), k => exact ⟨_, _, _, rfl, _, M1, F1, A1, ((s1.set i r1).set j r2).set l r3, k⟩)
theorem e_par3 {i j l : Nat} {t : DA} {E : DEnds} {Γ : G} {M : MM} : dPar3 i j l t E Γ M = t Γ M (fun ds M1 => match ds with
  | [a, b, c] => E.nx (((Γ.set i (some a)).set j (some b)).set l (some c)) M1
  | _ => False) E.rz := rfl
end L3

namespace L3
open PySem PySem.Spec PyProof.Rows L2 Evl
open Classical
/-! ### a dict, texts to texts, read alone -/
theorem post_dt {X : Cx} {O : Org} {F : Hp} {A : List Addr} {H : Hp} {σ : L2.St} {Γ : G} {vs : List V} {T : List D} {M : MM} {K : Kd} {l : List (List Nat × List Nat)} (s : StOk X O F A H σ Γ vs T M) (ha : ∀ q ∈ l, Asc q.1 ∧ Asc q.2) (k : K (.dt l) M) :
    ∀ q, H q = none → Post X O σ Γ vs T K (.ref q) (upd H q (.dK (dtK l))) := fun q hq =>
  ⟨.dt l, M, upd F q (.dK (dtK l)), A, (s.new hq).push (.dt upd_same ha), k⟩
def dDict0 : DE := fun _ M K _ => K (.dt []) M
theorem se_dict0 {X : Cx} {pos : Pos} : SE X (.Dict [] [] pos) dDict0 := fun W tk O F A H σ Γ vs T M K R s lf h =>
  bE_of pe_dnewK fun q hq => post_dt (l := []) s (fun _ h => nomatch h) h q hq
theorem e_dict0 {Γ : G} {M : MM} {K : Kd} {R : Rx} : dDict0 Γ M K R = K (.dt []) M := rfl
/-- dict(pairs), the keys told apart -/
def prT (q : List Nat × List Nat) : D := .tp [.str q.1, .str q.2]
def rDict : DC := fun ds M K => match ds with
  | [.ls l] => ∃ kvs, l = kvs.map prT ∧ (kvs.map (·.1)).Nodup ∧ K (.dt kvs) M
  | _ => False
theorem merge_dt : ∀ (r acc : List (List Nat × List Nat)), ((acc ++ r).map (·.1)).Nodup → mergeK (dtK acc) (dtK r) = dtK (acc ++ r)
  | [], acc, _ => by rw [List.append_nil]; rfl
  | q :: r, acc, h => by
    have e : putK (dtK acc) (.inr (SS q.1)) (.str (SS q.2)) = dtK (acc ++ [q]) := by
      unfold putK
      rw [if_neg]
      · unfold dtK
        rw [List.map_append]
        rfl
      · intro z
        rw [List.any_eq_true] at z
        obtain ⟨kv, hk, he⟩ := z
        obtain ⟨a, ha, rfl⟩ := List.mem_map.mp hk
        have he : (Sum.inr (SS a.1) : Key) = .inr (SS q.1) := of_decide_eq_true he
        have he := SS_inj (Sum.inr.inj he)
        rw [List.map_append, List.nodup_append] at h
        exact h.2.2 a.1 (List.mem_map.mpr ⟨a, ha, rfl⟩) q.1 (by simp) he
    show mergeK (putK (dtK acc) (.inr (SS q.1)) (.str (SS q.2))) (dtK r) = _
    rw [e, merge_dt r (acc ++ [q]) (by simpa using h), List.append_assoc]
    rfl
theorem pairs_dt {K : PySem.W.Frag} {mg : Str → Option Value} {A : List Addr} {F H : Hp} (ex : Ex F H) : ∀ {kvs : List (List Nat × List Nat)} {xs : List V}, IsL K mg A F xs (kvs.map prT) → (∃ ps : List Addr, xs = ps.map V.ref ∧ Paired (fun p kv => SqT K H p [kV kv.1, kv.2]) ps (dtK kvs)) ∧ ∀ q ∈ kvs, Asc q.1 ∧ Asc q.2
  | [], xs, h => by
    cases h
    exact ⟨⟨[], rfl, .nil⟩, fun _ h => nomatch h⟩
  | q :: r, xs, h => by
    cases h with
    | cons i t =>
      obtain ⟨⟨ps, e, p⟩, ha⟩ := pairs_dt ex t
      obtain ⟨a, ys, e1, hq, l⟩ := is_tp i
      cases l with
      | cons i1 l =>
        cases l with
        | cons i2 l =>
          cases l with
          | nil =>
            have e2 := is_str i1
            have e3 := is_str i2
            have a1 : Asc q.1 := by cases i1 with | str _ h => exact h
            have a2 : Asc q.2 := by cases i2 with | str _ h => exact h
            subst e2 e3
            refine ⟨⟨a :: ps, by rw [e1, e]; rfl, .cons (ex_t ex hq) p⟩, fun z hz => ?_⟩
            rcases List.mem_cons.mp hz with rfl | hz
            · exact ⟨a1, a2⟩
            · exact ha z hz
theorem cd_dict {X : Cx} (hc : X.calm = true) : CallD X (.type "dict") rDict := by
  intro O F A H σ Γ vs T M K ws ds s p h
  match ds, p, h with
  | [.ls l], .cons i .nil, ⟨kvs, e, hn, k⟩ =>
    subst e
    obtain ⟨a, xs, rfl, hF, il⟩ := is_ls i
    obtain ⟨⟨ps, rfl, pp⟩, ha⟩ := pairs_dt s.exH il
    refine ⟨_, call_dictP hc, a, ps, dtK kvs, rfl, .inl (.inl (s.exH _ _ hF)), pp, ?_⟩
    rw [show mergeK [] (dtK kvs) = dtK kvs from merge_dt kvs [] hn]
    exact post_dt s ha k
/-- d.get(k, f) -/
def dGet2 (t te tf : DE) : DE := fun Γ M K R => t Γ M (fun d M1 => match d with
  | .dt l => te Γ M1 (fun k M2 => match k with
    | .str k => tf Γ M2 (fun f M3 => K ((lookT k l).elim f .str) M3) R
    | _ => False) R
  | _ => False) R
theorem val_dt {k : List Nat} : ∀ {l : List (List Nat × List Nat)}, valV (dtK l) (.inr (SS k)) = (lookT k l).map fun v => V.str (SS v)
  | [] => rfl
  | (a, b) :: r => by
    show valV (((.inr (SS a) : Key), V.str (SS b)) :: dtK r) _ = (if a = k then some b else lookT k r).map _
    by_cases h : a = k
    · rw [if_pos h, valV_pos (by rw [h])]
      rfl
    · rw [if_neg h, ← val_dt]
      unfold valV
      rw [List.find?_cons_of_neg]
      simp only [decide_eq_true_eq]
      exact fun z => h (SS_inj (Sum.inr.inj z))
theorem asc_dt {l : List (List Nat × List Nat)} (h : ∀ q ∈ l, Asc q.1 ∧ Asc q.2) {k v : List Nat} (e : lookT k l = some v) : Asc v := by
  induction l with
  | nil => cases e
  | cons q r ih =>
    obtain ⟨a, b⟩ := q
    have e : (if a = k then some b else lookT k r) = some v := e
    by_cases c : a = k
    · rw [if_pos c] at e
      cases e
      exact (h _ List.mem_cons_self).2
    · rw [if_neg c] at e
      exact ih (fun q hq => h q (List.mem_cons_of_mem _ hq)) e
theorem se_get2 {X : Cx} {o e f : Expr} {to te tf : DE} {apos cpos : Pos} (hu : X.A.units + 64 < cLine) (so : SE X o to) (se : SE X e te) (sf : SE X f tf) (m : M2 X o "get" apos e f cpos := by exact ⟨rfl, rfl, rfl, rfl⟩) : SE X (.Call (.Attribute o "get" apos) [e, f] [] cpos) (dGet2 to te tf) := fun W tk O F A H σ Γ vs T M K R s lf h => by
  refine bE_of (pe_dget2 (by omega) bE_ok bE_ok bE_ok m) ?_
  refine bE_mono (so W tk O F A H σ Γ vs T M _ _ s lf h) fun x H1 ⟨d, M1, F1, A1, s1, k1⟩ => ?_
  cases d with
  | dt l =>
    obtain ⟨a, rfl, hF, ha⟩ := is_dt s1.top
    refine ⟨a, rfl, .inl ⟨_, .inl (s1.exH _ _ hF)⟩, ?_⟩
    refine bE_mono (se W tk O F1 A1 H1 σ Γ _ _ M1 _ _ s1 lf.pop k1) fun y H2 ⟨k, M2, F2, A2, s2, k2⟩ => ?_
    cases k with
    | str k =>
      refine bE_mono (sf W tk O F2 A2 H2 σ Γ _ _ M2 _ _ s2 lf.pop.pop k2) fun z H3 ⟨g, M3, F3, A3, s3, k3⟩ => ?_
      have i1 := s3.pop.top
      obtain ⟨a', e', hF3, _⟩ := is_dt s3.pop.pop.top
      cases e'
      refine ⟨valV (dtK l) (.inr (SS k)), .inl ⟨_, .inr (SS k), .inl (s3.exH _ _ hF3), is_str i1, rfl⟩, ?_⟩
      rw [val_dt]
      cases q : lookT k l with
      | none =>
        rw [q] at k3
        exact ⟨g, M3, F3, A3, s3.pop.pop.pop.push s3.top, k3⟩
      | some v =>
        rw [q] at k3
        exact ⟨.str v, M3, F3, A3, s3.pop.pop.pop.push (.str v (asc_dt ha q)), k3⟩
    | _ => exact k2.elim
  | _ => exact k1.elim
end L3

namespace L3
open PySem PySem.Spec PyProof.Rows L2 Evl
open Classical
/-! ### d.get(k) of a dict of the module, texts to texts -/
/-- a text or nothing -/
def optD : Option (List Nat) → D
  | some t => .str t
  | none => .non
structure FTabG (K : PySem.W.Frag) (w : World) (mg : Str → Option Value) (x : Str) (kvs : List (List Nat × List Nat)) : Prop where
  ex : ∃ d es n, mg x = some (.ref d) ∧ KDict K w d es n ∧ (∀ k v, lookT k kvs = some v → Asc v ∧ ∃ u, PySem.W.nsIn K d (SS k) = some (some u) ∧ RelV (.str (SS v)) u) ∧ ∀ k, lookT k kvs = none → PySem.W.nsIn K d (SS k) = some none
theorem none_mapS {P : Program} {w : World} {K : PySem.W.Frag} {h : Heap} {d : Addr} {es : Array DictEntry} {n : Nat} (D : KDict K w d es n) (I : K.In h) : ∃ f, h.MapOf (noneKind P w) d f ∧ f none = none := by
  refine ⟨fun k => findBy (noneKind P w).is es k, ⟨_, es, n, I _ _ D.at_, ⟨rfl, rfl, rfl⟩, rfl, fun e he => ?_, fun _ => rfl⟩, ?_⟩
  · obtain ⟨x, t, e1, e2⟩ := D.lit.all e (Array.mem_toList_iff.mpr he)
    refine ⟨some (.inr x), ?_, e2⟩
    rw [e1]
    exact PySem.strKind_is P w x t
  · have q : (es.find? fun e => nkIs none e.key) = none := by
      rw [Array.find?_eq_none]
      intro e he hq
      obtain ⟨x, t, e1, e2⟩ := D.lit.all e (Array.mem_toList_iff.mpr he)
      rw [e1] at hq
      cases hq
    show (es.find? fun e => nkIs none e.key).map (·.val) = none
    rw [q] <;> rfl
theorem pe_kget {X : Cx} {d : Addr} {es : Array DictEntry} {n : Nat} {o e : Expr} {td ty : TE} {apos cpos : Pos} (D : KDict X.K X.w d es n) (ho : PE X o td) (he : PE X e ty) (m : M1 X o "get" apos e cpos) :
    PE X (.Call (.Attribute o "get" apos) [e] [] cpos) (fun σ H Q => td σ H fun x H1 => x = .ref d ∧ ty σ H1 fun y H2 => (∃ (z : Str) (r : Option Value), y = .str z ∧ PySem.W.nsIn X.K d z = some r ∧ (∀ u, r = some u → ∃ v0, RelV v0 u ∧ Q v0 H2) ∧ (r = none → Q .non H2)) ∨ (y = .non ∧ Q .non H2)) := by
  refine ⟨fun pins s σ H Q I h => ?_⟩
  refine wpAny_Call_method m.base m.few m.line PySem.F.plainAttrs_dict PySem.F.slot_dict_get PySem.F.type_dict_get (thn (ho.run pins s σ H _ I h) fun u s1 ⟨x, H1, I1, rx, ex, q1⟩ => ?_)
  subst ex
  cases (show u = Value.ref d from rx)
  have hm := PySem.W.mapOf_K (prog := X.prog) (w := X.w) I1.kIn D.at_ D.lit
  refine ⟨hm.typeIs, hm.noDict, ?_⟩
  rw [m.trees]
  refine Calls.callWith_builtin rfl (Calls.evalArgs_plain (Calls.spliced_cons (thn (he.run pins s1 σ H1 _ I1 q1) fun iv s2 ⟨y, H2, I2, ry, q2⟩ => Calls.spliced_nil ?_)))
  rcases q2 with ⟨z, r, ey, hn, hs, hno⟩ | ⟨ey, q⟩
  · subst ey
    obtain ⟨t, rfl⟩ := (show ∃ t, iv = Value.str z t from ry)
    have hm2 := PySem.W.mapOf_K (prog := X.prog) (w := X.w) I2.kIn D.at_ D.lit
    refine call_meetsIn PySem.F.slot_dict_get hm2.typeIs PySem.F.entry_dict_get (PySem.F.args_dict_get_2 _ _) (meets_dict_get (strKind X.prog X.w) d (PySem.strKind_is X.prog X.w z t) D.low) ⟨_, hm2, ?_⟩
    rw [PySem.W.find_K D.at_ hn]
    cases r with
    | none => exact ⟨.non, H2, I2.tok _, rfl, hno rfl⟩
    | some u =>
      obtain ⟨v0, rv, q⟩ := hs u rfl
      exact ⟨v0, H2, I2.tok _, rv, q⟩
  · subst ey
    cases (show iv = Value.none from ry)
    obtain ⟨f, hm3, hf⟩ := none_mapS (P := X.prog) D I2.kIn
    refine call_meetsIn PySem.F.slot_dict_get hm3.typeIs PySem.F.entry_dict_get (PySem.F.args_dict_get_2 _ _) (meets_dict_get (k := none) (noneKind X.prog X.w) d (show (noneKind X.prog X.w).is none .none = true from rfl) D.low) ⟨_, hm3, ?_⟩
    rw [hf]
    exact ⟨.non, H2, I2.tok _, rfl, q⟩
def dTabG (kvs : List (List Nat × List Nat)) (t : DE) : DE := fun Γ M K R => t Γ M (fun d M1 => match d with
  | .str k => K (optD (lookT k kvs)) M1
  | .non => K .non M1
  | _ => False) R
theorem se_tabG {X : Cx} {x : Str} {kvs : List (List Nat × List Nat)} {b : Expr} {tb : DE} {p apos cpos : Pos} (h : FTabG X.K X.w X.mg x kvs) (sb : SE X b tb) (hg : Gl X x := by rfl) (m : M1 X (.Name x p) "get" apos b cpos := by exact ⟨rfl, rfl, rfl, rfl⟩) (hd : (x == ("__debug__" : Str)) = false := by decide) :
    SE X (.Call (.Attribute (.Name x p) "get" apos) [b] [] cpos) (dTabG kvs tb) := fun W tk O F A H σ Γ vs T M K R s lf hh => by
  obtain ⟨d, es, n, hm, kd, hv, hno⟩ := h.ex
  refine bE_of (pe_kget kd (pe_glob (v := .ref d) hg hm rfl hd) bE_ok m) ?_
  refine ⟨rfl, bE_mono (sb W tk O F A H σ Γ vs T M _ R s lf hh) fun v H1 ⟨k, M1, F1, A1, s1, kk⟩ => ?_⟩
  cases k with
  | str l =>
    cases q : lookT l kvs with
    | none =>
      have kk : K (optD (lookT l kvs)) M1 := kk
      rw [q] at kk
      exact .inl ⟨SS l, none, is_str s1.top, hno l q, (fun u z => nomatch z), fun _ => ⟨.non, M1, F1, A1, s1.pop.push .non, kk⟩⟩
    | some v2 =>
      have kk : K (optD (lookT l kvs)) M1 := kk
      rw [q] at kk
      obtain ⟨ha, u, hn, rv⟩ := hv l v2 q
      exact .inl ⟨SS l, some u, is_str s1.top, hn, (fun u' z => by cases z; exact ⟨_, rv, .str v2, M1, F1, A1, s1.pop.push (.str v2 ha), kk⟩), fun z => nomatch z⟩
  | non => exact .inr ⟨is_non s1.top, .non, M1, F1, A1, s1.pop.push .non, kk⟩
  | _ => exact kk.elim
def tabGI (kvs : List (List Nat × List Nat)) (d : D) (M : MM) [b : Box Kd] : Prop := match d with
  | .str k => b.val (optD (lookT k kvs)) M
  | .non => b.val .non M
  | _ => False
theorem e_tabG {kvs : List (List Nat × List Nat)} {t : DE} {Γ : G} {M : MM} {K : Kd} {R : Rx} : dTabG kvs t Γ M K R = t Γ M (fun d M1 => tabGI kvs d M1 (b := ⟨K⟩)) R := rfl
theorem tabGI_s {kvs : List (List Nat × List Nat)} {k : List Nat} {M : MM} {K : Kd} : tabGI kvs (.str k) M (b := ⟨K⟩) = K (optD (lookT k kvs)) M := rfl
theorem tabGI_n {kvs : List (List Nat × List Nat)} {M : MM} {K : Kd} : tabGI kvs .non M (b := ⟨K⟩) = K .non M := rfl
/-- the check of such a table -/
def tabMB (x : Str) (kvs : List (List Nat × List Nat)) : Chk := fun K => match K.lookup (He.ga K x) with
  | some ⟨_, _, .dict es _, _⟩ => es.toList.all fun e => match e.key with
    | .str y _ => kvs.any fun q => decide (SS q.1 = y)
    | _ => false
  | _ => false
theorem lookT_none {k : List Nat} : ∀ {l : List (List Nat × List Nat)}, lookT k l = none → ∀ q ∈ l, q.1 ≠ k
  | [], _, _, h => nomatch h
  | (a, b) :: r, e, q, h => by
    have e : (if a = k then some b else lookT k r) = none := e
    by_cases c : a = k
    · rw [if_pos c] at e
      cases e
    · rw [if_neg c] at e
      rcases List.mem_cons.mp h with rfl | h
      · exact c
      · exact lookT_none e q h
theorem tabG_ok {K : PySem.W.Frag} {w : World} {mg : Str → Option Value} {x : Str} {kvs : List (List Nat × List Nat)} (h : tabB x kvs K = true) (h2 : tabMB x kvs K = true) (hm : mg x = some (.ref (He.ga K x))) (kd : ∃ es n, KDict K w (He.ga K x) es n) (ha : ∀ q ∈ kvs, Asc q.2) : FTabG K w mg x kvs := by
  obtain ⟨es, n, kd⟩ := kd
  obtain ⟨d', es', n', hm', kd', hv⟩ := (tabB_ok h hm ⟨es, n, kd⟩ ha).ex
  cases hm.symm.trans hm'
  refine ⟨He.ga K x, es, n, hm, kd, hv, fun k hk => ?_⟩
  have hno := lookT_none hk
  unfold tabMB at h2
  rw [kd.at_] at h2
  have h2 : (es.toList.all fun e => match e.key with
    | .str y _ => kvs.any fun q => decide (SS q.1 = y)
    | _ => false) = true := h2
  have hall := List.all_eq_true.mp h2
  have fn : es.toList.find? (fun e => e.key.isStr (SS k)) = none := by
    rw [List.find?_eq_none]
    intro e he z
    have q := hall e he
    cases hk2 : e.key with
    | str y t =>
      rw [hk2] at q z
      have q : (kvs.any fun q => decide (SS q.1 = y)) = true := q
      obtain ⟨p, hp, e1⟩ := List.any_eq_true.mp q
      have e1 : SS p.1 = y := of_decide_eq_true e1
      have z : (y == SS k) = true := z
      have z := eq_of_beq z
      exact hno p hp (SS_inj (e1.trans z))
    | _ => rw [hk2] at q; cases q
  have fr : es.toList.any (fun e => e.refKey) = false := by
    rw [List.any_eq_false]
    intro e he z
    have q := hall e he
    cases hk2 : e.key with
    | str y t =>
      unfold DictEntry.refKey at z
      rw [hk2] at z
      cases z
    | _ => rw [hk2] at q; cases q
  unfold PySem.W.nsIn
  rw [kd.at_]
  dsimp only
  rw [fn]
  dsimp only
  rw [fr]
  rfl
/-! ### text.lstrip(sign) -/
theorem drop_tw (p : Nat → Bool) : ∀ a : List Nat, a.drop (a.takeWhile p).length = a.dropWhile p
  | [] => rfl
  | x :: r => by
    cases h : p x with
    | true =>
      rw [List.takeWhile_cons_of_pos h, List.dropWhile_cons_of_pos h]
      exact drop_tw p r
    | false =>
      rw [List.takeWhile_cons_of_neg (by simp [h]), List.dropWhile_cons_of_neg (by simp [h])]
      rfl
theorem lstrip_SS (a : List Nat) (c : Nat) : Txt.lstripChars (SS a) (SS [c]) = SS (a.dropWhile (· == c)) := by
  have eg : (SS [c]).cps.contains = fun n => n == c := by
    funext n
    show ([c] : List Nat).toArray.contains n = _
    rw [List.contains_toArray, Bool.eq_iff_iff]
    simp
  have e1 : Txt.lstripChars (SS a) (SS [c]) = if ((a.takeWhile (· == c)).length == 0 && (SS a).length == (SS a).length) = true then SS a else Builtin.Str.strSub (SS a) (a.takeWhile (· == c)).length (SS a).length := by
    show (if stripSame (SS [c]).cps.contains true false (SS a) = true then _ else stripped (SS [c]).cps.contains true false (SS a)) = _
    rw [eg]
    rfl
  rw [e1]
  have e2 := drop_tw (· == c) a
  split
  · rename_i h
    simp only [Bool.and_eq_true, beq_iff_eq] at h
    rw [h.1] at e2
    rw [← e2]
    rfl
  · rw [← e2]
    show (⟨(a.toArray).extract _ (SS a).length⟩ : Str) = ⟨(a.drop _).toArray⟩
    rw [len_SS]
    congr 1
    simp only [List.extract_toArray, List.extract_eq_drop_take, List.take_of_length_le (Nat.le_of_eq List.length_drop)]
def mLstrip : DM := fun a ds M K => match ds with
  | [.str [c]] => a.length ≤ 16777216 ∧ K (.str (a.dropWhile (· == c))) M
  | _ => False
theorem md_lstrip {X : Cx} : MtD X "str.lstrip" mLstrip := by
  intro O F A H σ Γ vs T M K ws ds a s ha p h
  match ds, p, h with
  | [.str [c]], .cons r .nil, ⟨hl, k⟩ =>
    rw [is_str r]
    exact ⟨_, mt_lstripChars, SS a, SS [c], rfl, rfl, by rw [len_SS, sizeLine_eq]; exact hl, by rw [lstrip_SS]; exact post_c s (.str _ fun x hx => ha x ((List.dropWhile_sublist _).subset hx)) k⟩
theorem r_lstrip {a : List Nat} {c : Nat} {M : MM} {K : Kd} : mtI mLstrip a [.str [c]] M (b := ⟨K⟩) = thenP (a.length ≤ 16777216) (b := ⟨K (.str (a.dropWhile (· == c))) M⟩) := rfl
/-! ### int(text) -/
def rIntS : DC := fun ds M K => match ds with
  | [.str l] => ∃ n, PySem.intText? (SS l) = some n ∧ l.length ≤ 640 ∧ K (.int n) M
  | _ => False
theorem cd_intS {X : Cx} : CallD X (.type "int") rIntS := by
  intro O F A H σ Γ vs T M K ws ds s p h
  match ds, p, h with
  | [.str l], .cons r .nil, ⟨n, h1, h2, k⟩ =>
    rw [is_str r]
    exact ⟨_, call_int_str, SS l, n, rfl, h1, by rw [len_SS]; exact h2, post_c s (.int _) k⟩
theorem r_intS {l : List Nat} {M : MM} {K : Kd} {n : Int} (h : PySem.intText? (SS l) = some n) (hl : l.length ≤ 640) (k : K (.int n) M) : cbI rIntS [.str l] M (b := ⟨K⟩) := ⟨n, h, hl, k⟩
/-! ### a, b, c = a list -/
def dUnpL (is : List Nat) (t : DE) : DS := fun E Γ M => t Γ M (fun d M1 => match d with
  | .ls ds => ds.length = is.length ∧ E.nx (setAll Γ is ds) M1
  | _ => False) E.rz
def gLs (K : PySem.W.Frag) (is : List Nat) : TG := gUnl K is.length (gNms is)
theorem ss_unpL {X : Cx} {tgt e : Expr} {pos : Pos} {is : List Nat} {te : DE} (sa : SE X e te) (hg : PG X tgt (gLs X.K is)) (hs : swapsWithSole [tgt] e pos.line X.env = pure false := by rfl) (hw : swappedStores [tgt] e X.env = pure none := by rfl)
    (h1 : (assignEach [tgt] X.env).map (·.2) = [assign tgt X.env] := by rfl) : SS' X (.Assign [tgt] e pos) (dUnpL is te) := fun W tk O F A H σ Γ vs T M E s lf h => by
  refine bS_of (ps_asg bE_ok hg hs hw h1) ?_
  refine bE_mono (sa W tk O F A H σ Γ vs T M _ _ s lf h) fun v H1 ⟨d, M1, F1, A1, s1, k⟩ => ?_
  cases d with
  | ls ds =>
    obtain ⟨hl, k⟩ := k
    obtain ⟨a, xs, rfl, hF, p⟩ := is_ls s1.top
    exact ⟨a, xs, rfl, SqL.of (s1.exH _ _ hF), p.len.trans hl, gNms_all (p.len.trans hl) ⟨_, M1, F1, A1, s1.pop.setAll p, k⟩⟩
  | _ => exact k.elim
theorem e_unpL {is : List Nat} {t : DE} {E : DEnds} {Γ : G} {M : MM} : dUnpL is t E Γ M = t Γ M (fun d M1 => match d with
  | .ls ds => ds.length = is.length ∧ E.nx (setAll Γ is ds) M1
  | _ => False) E.rz := rfl
end L3

namespace L3
open PySem PySem.Spec PyProof.Rows L2 Evl
open Classical
/-! ### keywords with lacking ones: the arguments in the def's own order -/
def permL {α : Type} (is : List Nat) (l : List α) : List α := is.filterMap (l[·]?)
theorem paired_get {α β : Type} {R : α → β → Prop} : ∀ {a : List α} {b : List β} (i : Nat), Paired R a b → (a[i]? = none ∧ b[i]? = none) ∨ ∃ x y, a[i]? = some x ∧ b[i]? = some y ∧ R x y
  | _, _, i, .nil => .inl ⟨by simp, by simp⟩
  | _, _, 0, .cons h _ => .inr ⟨_, _, by simp, by simp, h⟩
  | _, _, i + 1, .cons _ t => by
    rcases paired_get i t with ⟨h1, h2⟩ | ⟨x, y, h1, h2, h3⟩
    · exact .inl ⟨by simpa using h1, by simpa using h2⟩
    · exact .inr ⟨x, y, by simpa using h1, by simpa using h2, h3⟩
theorem paired_perm {α β : Type} {R : α → β → Prop} {a : List α} {b : List β} (h : Paired R a b) : ∀ is : List Nat, Paired R (permL is a) (permL is b)
  | [] => .nil
  | i :: r => by
    have ih := paired_perm h r
    unfold permL at ih ⊢
    rcases paired_get i h with ⟨h1, h2⟩ | ⟨x, y, h1, h2, h3⟩
    · rw [List.filterMap_cons_none h1, List.filterMap_cons_none h2]
      exact ih
    · rw [List.filterMap_cons_some h1, List.filterMap_cons_some h2]
      exact .cons h3 ih
end L3

namespace L3
open PySem PySem.Spec PyProof.Rows L2 Evl
open Classical
/-! ### a dict written with texts, and d[k] of it -/
def CPairs (X : Cx) (pos : Pos) (keys : List (Option Expr)) (values : List Expr) (kvs : List (List Nat × List Nat)) : Prop :=
  ∃ trs, PPs X pos keys values trs ∧ ∀ σ H Q, Q (kvs.map fun q => (V.str (SS q.1), V.str (SS q.2))) H → tPairs trs σ H Q
theorem cp_nil {X : Cx} {pos : Pos} : CPairs X pos [] [] [] := ⟨[], pps_nil, fun _ _ _ h => h⟩
theorem cp_cons {X : Cx} {pos p1 p2 : Pos} {x y : Str} {a b : List Nat} {i j : Nat} {ks : List (Option Expr)} {vs : List Expr} {kvs : List (List Nat × List Nat)} (h : CPairs X pos ks vs kvs) (hx : x = SS a := by rfl) (hy : y = SS b := by rfl) :
    CPairs X pos (some (.Constant (.str x) i p1) :: ks) (.Constant (.str y) j p2 :: vs) ((a, b) :: kvs) := by
  obtain ⟨trs, hp, hq⟩ := h
  subst hx hy
  exact ⟨_, pps_cons pe_str pe_str hp, fun σ H Q q => hq σ H _ q⟩
def dDispC (kvs : List (List Nat × List Nat)) : DE := fun _ M K _ => K (.dt kvs) M
theorem se_dispC {X : Cx} {pos : Pos} {keys : List (Option Expr)} {values : List Expr} {kvs : List (List Nat × List Nat)} (h : CPairs X pos keys values kvs) (ha : ∀ q ∈ kvs, Asc q.1 ∧ Asc q.2) (hn : (kvs.map (·.1)).Nodup) (h15' : kvs.length ≤ 15)
    (hall : keys.all (·.isSome) = true := by rfl) (hl : keys.length = values.length := by rfl) (h0 : keys ≠ [] := by exact fun z => nomatch z) (h15 : keys.length ≤ 15 := by decide) : SE X (.Dict keys values pos) (dDispC kvs) := fun W tk O F A H σ Γ vs T M K R s lf hh => by
  obtain ⟨trs, hp, hq⟩ := h
  refine bE_of (pe_disp hp hall hl h0 h15) fun p hf => hq _ _ _ ⟨upd_same, kvs.map fun q => (.inr (SS q.1), V.str (SS q.2)), by rw [List.map_map]; rfl, by rw [List.length_map]; exact h15', ?_⟩
  have e : mergeK [] (kvs.map fun q => ((.inr (SS q.1) : Key), V.str (SS q.2))) = dtK kvs := merge_dt kvs [] hn
  have eu : upd (upd H p (.dK [])) p (.dK (dtK kvs)) = upd H p (.dK (dtK kvs)) := by
    funext b
    by_cases hb : b = p
    · rw [hb, upd_same, upd_same]
    · rw [upd_ne hb, upd_ne hb, upd_ne hb]
  rw [e, eu]
  exact post_dt s ha hh p hf
theorem e_dispC {kvs : List (List Nat × List Nat)} {Γ : G} {M : MM} {K : Kd} {R : Rx} : dDispC kvs Γ M K R = K (.dt kvs) M := rfl
def dDtIx (t te : DE) : DE := fun Γ M K R => t Γ M (fun d M1 => match d with
  | .dt l => te Γ M1 (fun k M2 => match k with
    | .str k => ∃ v, lookT k l = some v ∧ K (.str v) M2
    | _ => False) R
  | _ => False) R
theorem se_dtIx {X : Cx} {o e : Expr} {to te : DE} {pos : Pos} (hu : X.A.units + 64 < cLine) (so : SE X o to) (se : SE X e te) (hs : NoSl e := by exact fun _ _ => rfl) : SE X (.Subscript o e pos) (dDtIx to te) := fun W tk O F A H σ Γ vs T M K R s lf h => by
  refine bE_of (pe_dget (by omega) bE_ok bE_ok hs) ?_
  refine bE_mono (so W tk O F A H σ Γ vs T M _ _ s lf h) fun x H1 ⟨d, M1, F1, A1, s1, k1⟩ => ?_
  cases d with
  | dt l =>
    obtain ⟨a, rfl, hF, ha⟩ := is_dt s1.top
    refine bE_mono (se W tk O F1 A1 H1 σ Γ _ _ M1 _ _ s1 lf.pop k1) fun y H2 ⟨k, M2, F2, A2, s2, k2⟩ => ?_
    cases k with
    | str k =>
      obtain ⟨v, q, kk⟩ := k2
      have i1 := s2.top
      obtain ⟨a', e', hF2, _⟩ := is_dt s2.pop.top
      cases e'
      have hv : valV (dtK l) (.inr (SS k)) = some (.str (SS v)) := by rw [val_dt, q]; rfl
      exact ⟨a, .str (SS v), rfl, .inl ⟨_, .inr (SS k), .inl (s2.exH _ _ hF2), is_str i1, hv.symm⟩, .str v, M2, F2, A2, s2.pop.pop.push (.str v (asc_dt ha q)), kk⟩
    | _ => exact k2.elim
  | _ => exact k1.elim
def onDt (d : D) [b : Box (List (List Nat × List Nat) → Prop)] : Prop := match d with | .dt l => b.val l | _ => False
theorem onDt_s {l : List (List Nat × List Nat)} {K : List (List Nat × List Nat) → Prop} : onDt (.dt l) (b := ⟨K⟩) = K l := rfl
theorem e_dtIx {t te : DE} {Γ : G} {M : MM} {K : Kd} {R : Rx} : dDtIx t te Γ M K R = t Γ M (fun d M1 => onDt d (b := ⟨fun l => te Γ M1 (fun k M2 => onS k (b := ⟨fun k => gets (lookT k l) (b := ⟨fun v => K (.str v) M2⟩)⟩)) R⟩)) R := by
  unfold dDtIx
  congr
  funext d M1
  cases d with
  | dt l =>
    show te Γ M1 _ R = te Γ M1 _ R
    congr
    funext k M2
    cases k with
    | str k => exact gets_ex
    | _ => rfl
  | _ => rfl
theorem e_get2 {t te tf : DE} {Γ : G} {M : MM} {K : Kd} {R : Rx} : dGet2 t te tf Γ M K R = t Γ M (fun d M1 => onDt d (b := ⟨fun l => te Γ M1 (fun k M2 => onS k (b := ⟨fun k => tf Γ M2 (fun f M3 => K ((lookT k l).elim f .str) M3) R⟩)) R⟩)) R := by
  unfold dGet2
  congr
theorem gr_dt_iff {l : List (List Nat × List Nat)} : Gr (.dt l) ↔ True := iff_true_intro trivial
end L3

namespace L3
open PySem PySem.Spec PyProof.Rows L2 Evl
open Classical
/-! ### text.find(sign) -/
theorem fiC_none {c : Nat} : ∀ {a : List Nat}, fiC c a = none → ∀ k : Nat, a[k]? ≠ some c
  | [], _, k => by simp
  | x :: r, h, k => by
    have h : (if x = c then some 0 else match fiC c r with | some k => some (k + 1) | none => none) = none := h
    by_cases hx : x = c
    · rw [if_pos hx] at h
      cases h
    · rw [if_neg hx] at h
      cases e : fiC c r with
      | some m => rw [e] at h; cases h
      | none =>
        cases k with
        | zero => simpa using hx
        | succ k => simpa using fiC_none e k
theorem find_SS (a : List Nat) (c : Nat) : Txt.find (SS a) (SS [c]) = optI (fiC c a) := by
  show (match Builtin.Str.occurrences (SS a) (SS [c]) 0 (SS a).length 1 with | i :: _ => (i : Int) | [] => -1) = _
  cases e : fiC c a with
  | some i =>
    obtain ⟨rest, q⟩ := occ_SS e
    rw [q]
    rfl
  | none =>
    rcases StrLaws.occ_head (SS a) (SS [c]) 1 (Nat.le_refl _) with ⟨q, _⟩ | ⟨j, rest, q, hj, _⟩
    · rw [q]
      rfl
    · exact absurd ((at_one a c j).mp hj) (fiC_none e j)
def mFind : DM := fun a ds M K => match ds with
  | [.str [c]] => K (.int (optI (fiC c a))) M
  | _ => False
theorem md_find {X : Cx} : MtD X "str.find" mFind := by
  intro O F A H σ Γ vs T M K ws ds a s ha p h
  match ds, p, h with
  | [.str [c]], .cons r .nil, k =>
    rw [is_str r]
    exact ⟨_, mt_find, SS a, SS [c], rfl, rfl, by rw [find_SS]; exact post_c s (.int _) k⟩
theorem r_find {a : List Nat} {c : Nat} {M : MM} {K : Kd} : mtI mFind a [.str [c]] M (b := ⟨K⟩) = K (.int (optI (fiC c a))) M := rfl
/-! ### x = y = z = e -/
def dAsg3 (i j l : Nat) (t : DE) : DS := fun E Γ M => t Γ M (fun d M1 => E.nx (((Γ.set i (some d)).set j (some d)).set l (some d)) M1) E.rz
theorem ss_asg3 {X : Cx} {i j l : Nat} {t1 t2 t3 e : Expr} {te : DE} {pos : Pos} (sa : SE X e te) (h1 : PG X t1 (gName i)) (h2 : PG X t2 (gName j)) (h3 : PG X t3 (gName l))
    (ha : (assignEach [t1, t2, t3] X.env).map (·.2) = [assign t1 X.env, assign t2 X.env, assign t3 X.env] := by rfl) (hw : swappedStores [t1, t2, t3] e X.env = pure none := by rfl) : SS' X (.Assign [t1, t2, t3] e pos) (dAsg3 i j l te) := fun W tk O F A H σ Γ vs T M E s lf h =>
  bS_of (ps_asg3 bE_ok h1 h2 h3 ha hw) (bE_mono (sa W tk O F A H σ Γ vs T M _ _ s lf h) fun v H1 ⟨d, M1, F1, A1, s1, k⟩ => ⟨_, M1, F1, A1, ((s1.pop.set i s1.top).set j s1.top).set l s1.top, k⟩)
theorem e_asg3 {i j l : Nat} {t : DE} {E : DEnds} {Γ : G} {M : MM} : dAsg3 i j l t E Γ M = t Γ M (fun d M1 => E.nx (((Γ.set i (some d)).set j (some d)).set l (some d)) M1) E.rz := rfl
end L3

namespace L3
open PySem PySem.Spec PyProof.Rows L2 Evl
open Classical
/-! ### str(x), x an instance whose class has __str__ -/
theorem run_in2 {X : Cx} {k : Nat} {f : Addr} {fd : FuncData} {ps : List Str} {sp : Sp} {pins : List (Addr × Obj)} {σ : L2.St} {H : Hp} {s : Shared} {Q : VK} {us : List Value} {vs : List V} (Fn : FnOk X.prog X.w X.K X.mg X.base (L2.CX X.prog X.w) k f fd ps sp) (hr : Room (k + 2) X.A) (hb : Binds X.K fd ps []) (I : Inv X pins σ H s) (r : Vals vs us)
    (h : sp vs H Q L2.E0) : wpAny (model X.prog X.w) X.A.in1.in1 (call (.ref f) us) (EP X pins σ Q) X.xe s := by
  have hl : (us ++ []).length = ps.length := by rw [List.append_nil, ← r.length]; exact Fn.len _ _ _ _ h
  refine wpAny_call (codeAny_mono (Fn.run X.A.in1.in1 X.stack s H ⟨us, []⟩ (us ++ []) vs Q L2.E0 (Room.in1 (Room.in1 hr)) I.env0.in1.in1 (hb s us I.kIn hl) (by rw [List.append_nil]; exact r) h) fun z s' hz => ?_)
  cases z with
  | error e => exact passL (X := X) pins σ H s e s' I hz
  | ok fl =>
    cases fl with
    | ret u => exact I.after hz
    | _ => exact hz.elim
structure FSt (P : Program) (w : World) (K : PySem.W.Frag) (mg : Str → Option Value) (base : Heap) (c : Str) (k : Nat) (S : DSpec) : Prop where
  ex : ∃ C fd ps, mg c = some (.ref C) ∧ Meth K C "__str__" (He.ma K C "__str__") ∧ FnOk P w K mg base (L2.CX P w) k (He.ma K C "__str__") fd ps (spOf K mg S) ∧ Binds K fd ps []
def rStrOwn (c : Str) (S : DSpec) : DC := fun ds M K => (∃ ns l, ds = [.ob c ns l]) ∧ cQ S ds M (fun d M' => ∃ t, d = .str t ∧ K (.str t) M')
theorem cd_strOwn {X : Cx} {c : Str} {k : Nat} {S : DSpec} (h : FSt X.prog X.w X.K X.mg X.base c k S) (hr : Room (k + 2) X.A) : CallD X (.type "str") (rStrOwn c S) := by
  intro O F A H σ Γ vs T M K ws ds s is ⟨⟨ns, l, e⟩, hq⟩
  subst e
  obtain ⟨C, fd, ps, hm, hme, Fn, b⟩ := h.ex
  cases is with
  | cons i1 t =>
    cases t
    obtain ⟨a, C1, dx, fs, e, hm1, hF1, _, _⟩ := is_ob i1
    subst e
    rw [hm] at hm1
    cases hm1
    refine ⟨fun xs H' Q' => xs = [.ref a] ∧ H' = H ∧ Q' = Post X O σ Γ vs T K, fun pins st σ' H' xs us Q' I r ⟨e1, e2, e3⟩ => ?_, rfl, rfl, rfl⟩
    subst e1 e2 e3
    obtain ⟨u, rfl, r1⟩ := vals1 r
    cases (show u = Value.ref a from r1)
    obtain ⟨mA, OA, _⟩ := ins_get I.hok (s.exH _ _ hF1)
    obtain ⟨od, IA, _⟩ := OA.look
    refine PySem.W.kso_call (by have := hr.un; show X.A.units + 1 + 1 < _; omega) I.kIn IA hme.at_ hme.fn ?_
    refine thn (run_in2 (us := [.ref a]) (vs := [.ref a]) Fn hr b I (.cons rfl .nil) (sp_q s (.cons i1 .nil) hq)) fun r s' hr' => ?_
    obtain ⟨x, H', I', rx, d, M', F', A', s2, t, rfl, kk⟩ := hr'
    cases is_str s2.top
    obtain ⟨tok, rfl⟩ := (show ∃ t', r = .str (SS t) t' from rx)
    exact ⟨_, H', I', rx, .str t, M', F', A', s2, kk⟩
/-! ### x in [..], the items instances of a class with __eq__ -/
def Det (d x : D) : Prop := ∀ (X : Cx) (pins : List (Addr × Obj)) (σ : L2.St) (H F : Hp) (s : Shared) (A : List Addr) (v : V), Inv X pins σ H s → Ex F H → Is X.K X.mg A F v d → Is X.K X.mg A F v x → d = x
def inQ (S : DSpec) (x : D) : List D → MM → (Bool → MM → Prop) → Prop
  | [], M, K => K false M
  | d :: r, M, K => Det d x ∧ (d = x → K true M) ∧ cQ S [d, x] M (fun v M1 => ∃ b, v = .bl b ∧ if b = true then K true M1 else inQ S x r M1 K)
def rInOwn (neg : Bool) (c : Str) (S : DSpec) : DO2 := fun x y M K => (∃ ns l, x = .ob c ns l) ∧ ∃ ds, y = .ls ds ∧ (∀ d ∈ ds, ∃ ns l, d = .ob c ns l) ∧ inQ S x ds M (fun b M1 => K (.bl (if neg then !b else b)) M1)
open AutoSeq1 (wpAny_loadPart') in
open MeetsSeq MeetsSeq2 MeetsSeq3 SeqRoads2 in
theorem loop_inOwn {X : Cx} {c : Str} {k : Nat} {S : DSpec} (h : FEq X.prog X.w X.K X.mg X.base c k S) (hr : Room (k + 2) X.A) {l xa : Addr} {pins : List (Addr × Obj)} {σ' : L2.St} {O : Org} {σ : L2.St} {Γ : G} {vs : List V} {T : List D} {ns : List Str} {lx : List D}
    {R : Result → Shared → Prop} {K : Bool → MM → Prop} (all : List D) (hob : ∀ d ∈ all, ∃ ns l, d = .ob c ns l)
    (hR : ∀ b s' M' F' A' H', Inv X pins σ' H' s' → StOk X O F' A' H' σ Γ vs T M' → K b M' → R (.ok (.ret (.bool b))) s') (hE : ∀ e s', X.xe e s' → R (.error e) s') :
    ∀ (ds pre : List D) (s : Shared) (F : Hp) (A : List Addr) (H : Hp) (M : MM), all = pre ++ ds → Inv X pins σ' H s → StOk X O F A H σ Γ (.ref l :: .ref xa :: vs) (.ls all :: .ob c ns lx :: T) M → inQ S (.ob c ns lx) ds M K →
    wpAny (model X.prog X.w) X.A.in1 (Builtin.«list.__contains__.loop» ⟨[.ref l, .ref xa, rawInt (pre.length : Nat)], []⟩) (fun fin s' => match fin with | .done f => R (.ok f) s' | .again c' => c'.quiet = true ∧ codeAny (model X.prog X.w) X.A c' R s') (fun e s' => R (.error e) s') s := by
  intro ds
  induction ds with
  | nil =>
    intro pre s F A H M ea I so q
    obtain ⟨a, xs, e, hF, isL⟩ := is_ls so.top
    cases e
    obtain ⟨its, r, pl, hz⟩ := I.list (SqL.of (so.exH _ _ hF))
    obtain ⟨⟨cls, dd, data, sl⟩, ho, hc, n, hd⟩ := pl.isList
    simp only at hc hd
    subst hc hd
    have hlen : its.length = pre.length := by
      rw [← r.length, isL.len, ea, List.append_nil]
    have fin := hR false s M F A H I so.pop.pop q
    obtain ⟨hp, g, d, tk, os⟩ := s
    wp_walk using wpAny_loadPart' ho
    have hi : its.toArray[((pre.length : Nat) : Int).toNat]? = none := by simp; omega
    rw [hi]
    wp_walk
    exact fin
  | cons d0 r0 ih =>
    intro pre s F A H M ea I so q
    obtain ⟨det, kt, cq⟩ := q
    obtain ⟨a, xs, e, hF, isL⟩ := is_ls so.top
    cases e
    obtain ⟨its, r, pl, hz⟩ := I.list (SqL.of (so.exH _ _ hF))
    obtain ⟨⟨cls, dd, data, sl⟩, ho, hc, n, hd⟩ := pl.isList
    simp only at hc hd
    subst hc hd
    obtain ⟨ns0, l0, rfl⟩ := hob d0 (by rw [ea]; exact List.mem_append_right _ List.mem_cons_self)
    have hall : all[pre.length]? = some (.ob c ns0 l0) := by rw [ea]; simp
    obtain ⟨a0, hu0, i0⟩ : ∃ a0, its[pre.length]? = some (Value.ref a0) ∧ Is X.K X.mg A F (.ref a0) (.ob c ns0 l0) := by
      obtain ⟨x0, hx0, i0⟩ := isL.some hall
      obtain ⟨a0, _, _, _, e0, _, _, _, _⟩ := is_ob i0
      subst e0
      obtain ⟨u, hu, ru⟩ := r.get hx0
      cases (show u = Value.ref a0 from ru)
      exact ⟨a0, hu, i0⟩
    obtain ⟨C, fd, ps, hm, ht, hme, Fn, b⟩ := h.ex
    obtain ⟨a0', C0, dx0, fs0, e0, hm0, hF0, _, _⟩ := is_ob i0
    cases e0
    obtain ⟨a1, C1, dx1, fs1, e1, hm1, hF1, _, _⟩ := is_ob so.pop.top
    cases e1
    have i1 := so.pop.top
    rw [hm] at hm0 hm1
    cases hm0; cases hm1
    obtain ⟨mA, OA, _⟩ := ins_get I.hok (so.exH _ _ hF0)
    obtain ⟨mB, OB, _⟩ := ins_get I.hok (so.exH _ _ hF1)
    obtain ⟨od, IA, _⟩ := OA.look
    obtain ⟨od2, IB, _⟩ := OB.look
    obtain ⟨m, hFr⟩ := I.fr
    have hn : PySem.W.notFirst X.K C (.ref C) = true := by unfold PySem.W.notFirst; simp
    have hi : its.toArray[((pre.length : Nat) : Int).toNat]? = some (.ref a0) := by simpa using hu0
    have heq : wpAny (model X.prog X.w) X.A.in1 (eqBool (.ref a0) (.ref xa)) (fun b' s' => ∃ M' F' A' H', Inv X pins σ' H' s' ∧ StOk X O F' A' H' σ Γ (.ref l :: .ref xa :: vs) (.ls all :: .ob c ns lx :: T) M' ∧ (if b' = true then K true M' else inQ S (.ob c ns lx) r0 M' K)) (fun e s' => R (.error e) s') s := by
      unfold eqBool
      refine wpAny_holding ?_
      refine wpAny_ite_split (fun hab => ?_) (fun hab => ?_)
      · have hax : a0 = xa := by have := eq_of_beq hab; injection this
        subst hax
        have hd0 := det X pins σ' H F s A _ I so.exH i0 i1
        wp_walk
        exact ⟨M, F, A, H, I, so, by rw [if_pos rfl]; exact kt hd0⟩
      · refine wpAny_bind ?_
        refine PySem.W.cmp_K (op := .Eq) (tb := .ref C) (Room.in1 hr).units0 hFr I.ok.mod.kin IA IB.type hn hme.at_ hme.fn ?_
        refine wpAny_mono (run_in1 (us := [.ref a0, .ref xa]) (vs := [.ref a0, .ref xa]) Fn (hr.mono (by omega)) b I (.cons rfl (.cons rfl .nil)) (sp_q so (.cons i0 (.cons i1 .nil)) cq)) (fun r s' hr' => ?_) fun e s' y => hE e s' y
        obtain ⟨x, H', I', rx, d, M', F', A', s2, b', rfl, kk⟩ := hr'
        cases is_bl s2.top
        cases (show r = Value.bool b' from rx)
        exact wpAny_truthy_bool ⟨M', F', A', H', I', s2.pop, kk⟩
    obtain ⟨hp, g, d, tk, os⟩ := s
    wp_walk using wpAny_loadPart' ho
    rw [hi]
    refine wpAny_bind (wpAny_mono heq (fun b' s' hb' => ?_) fun _ _ y => y)
    obtain ⟨M', F', A', H', I', so', kk⟩ := hb'
    cases b' with
    | true =>
      wp_walk
      exact hR true s' M' F' A' H' I' so'.pop.pop kk
    | false =>
      have hc : ((pre.length : Int) + 1) = (((pre ++ [D.ob c ns0 l0]).length : Nat) : Int) := by simp
      wp_walk
      rw [hc]
      exact ⟨plainId_quiet plain_contains_loop _, codeAny_builtin entry_contains_loop (by
        rw [Around.under_plainId plain_contains_loop _]
        exact ih (pre ++ [D.ob c ns0 l0]) s' F' A' H' M' (by rw [ea]; simp) I' so' kk)⟩
open AutoSeq1 (wpAny_loadPart') in
open MeetsSeq MeetsSeq2 MeetsSeq3 SeqRoads2 in
theorem go_inOwn {X : Cx} {c : Str} {k : Nat} {S : DSpec} (h : FEq X.prog X.w X.K X.mg X.base c k S) (hr : Room (k + 2) X.A) {neg : Bool} {O : Org} {F : Hp} {A : List Addr} {H : Hp} {σ : L2.St} {Γ : G} {vs : List V} {T : List D} {M : MM} {K : Kd} {v1 v2 : V} {d1 d2 : D}
    (s : StOk X O F A H σ Γ vs T M) (i1 : Is X.K X.mg A F v1 d1) (i2 : Is X.K X.mg A F v2 d2) (q : rInOwn neg c S d1 d2 M K) : bO X (compareOp (if neg then .NotIn else .In)) v1 v2 H (Post X O σ Γ vs T fun d M' => (∃ b, d = .bl b) ∧ K d M') := by
  obtain ⟨⟨ns, lx, e⟩, ds, e2, hob, q⟩ := q
  subst e e2
  obtain ⟨xa, C1, dx1, fs1, e1, hm1, hF1, _, _⟩ := is_ob i1
  subst e1
  obtain ⟨l, xs, e, hF, isL⟩ := is_ls i2
  subst e
  refine ⟨fun pins st σ' v u I r1 r2 => ?_⟩
  cases (show v = Value.ref xa from r1)
  cases (show u = Value.ref l from r2)
  obtain ⟨its, r, pl, hz⟩ := I.list (SqL.of (s.exH _ _ hF))
  obtain ⟨⟨cls, dd, data, sl⟩, ho, hc, n, hd⟩ := pl.isList
  simp only at hc hd
  subst hc hd
  have main : ∀ Q : Value → Shared → Prop, (∀ b s' M' F' A' H', Inv X pins σ' H' s' → StOk X O F' A' H' σ Γ vs T M' → K (.bl (if neg then !b else b)) M' → Q (.bool b) s') → wpAny (model X.prog X.w) X.A (call (.builtin "list.__contains__") [.ref l, .ref xa]) Q X.xe st := by
    intro Q hQ
    refine wpAny_call (codeAny_call_builtin PySem.F.slot_list_contains.plain PySem.F.entry_list_contains (PySem.F.slot_list_contains.check _ _ _ _ _ _ _ _ (show st.TypeIs (.ref l) "list" from ⟨_, ho, rfl⟩) (PySem.F.args_list_contains_2 _ _) ?_))
    have st0 := (s.push i1).push i2
    have L := loop_inOwn (K := fun b M' => K (.bl (if neg then !b else b)) M') (R := wants Q X.xe) h hr ds hob (fun b s' M' F' A' H' I' s2 kk => hQ b s' M' F' A' H' I' s2 kk) (fun e s' y => y) ds [] st _ _ _ _ rfl I st0 q
    obtain ⟨hp, g, d, tk, os⟩ := st
    wp_walk using wpAny_loadPart' ho
    exact ⟨plainId_quiet plain_contains_loop _, codeAny_builtin entry_contains_loop (by
      rw [Around.under_plainId plain_contains_loop _]
      exact L)⟩
  cases neg with
  | false =>
    show wpAny _ _ (do return Value.bool (← contains (.ref l) (.ref xa))) _ _ _
    refine wpAny_bind (wpAny_contains_slot (show st.TypeIs (.ref l) "list" from ⟨_, ho, rfl⟩) PySem.F.slot_list_contains (main _ fun b s' M' F' A' H' I' s2 kk => ?_))
    exact wpAny_truthy_bool (wpAny_pure ⟨.bl b, H', I', rfl, .bl b, M', F', A', s2.push (.bl _), ⟨_, rfl⟩, kk⟩)
  | true =>
    show wpAny _ _ (do return Value.bool (!(← contains (.ref l) (.ref xa)))) _ _ _
    refine wpAny_bind (wpAny_contains_slot (show st.TypeIs (.ref l) "list" from ⟨_, ho, rfl⟩) PySem.F.slot_list_contains (main _ fun b s' M' F' A' H' I' s2 kk => ?_))
    exact wpAny_truthy_bool (wpAny_pure ⟨.bl (!b), H', I', rfl, .bl (!b), M', F', A', s2.push (.bl _), ⟨_, rfl⟩, kk⟩)
theorem opd_inOwn {X : Cx} {c : Str} {k : Nat} {S : DSpec} (h : FEq X.prog X.w X.K X.mg X.base c k S) (hr : Room (k + 2) X.A) : OpDB X (compareOp .In) (rInOwn false c S) := fun O F A H σ Γ vs T M K v1 v2 d1 d2 s i1 i2 q => go_inOwn (neg := false) h hr s i1 i2 q
theorem opd_ninOwn {X : Cx} {c : Str} {k : Nat} {S : DSpec} (h : FEq X.prog X.w X.K X.mg X.base c k S) (hr : Room (k + 2) X.A) : OpDB X (compareOp .NotIn) (rInOwn true c S) := fun O F A H σ Γ vs T M K v1 v2 d1 d2 s i1 i2 q => go_inOwn (neg := true) h hr s i1 i2 q
/-! ### the same object is the same data -/
theorem det_str {K : PySem.W.Frag} {mg : Str → Option Value} {A : List Addr} {F : Hp} {v : V} {a b : Option (List Nat)} (h : Is K mg A F v (a.elim .non .str)) (g : Is K mg A F v (b.elim .non .str)) : a = b := by
  cases a with
  | none =>
    cases b with
    | none => rfl
    | some y => cases h; cases g
  | some x =>
    cases b with
    | none => cases h; cases g
    | some y =>
      have e1 := is_str h
      rw [e1] at g
      have e2 := V.str.inj (is_str g)
      exact congrArg some (by simpa using congrArg (fun z : Str => z.cps.toList) e2)
/-! ### C() -/
theorem se_mk0 {X : Cx} {k : Nat} {S : DSpec} {c : Str} {dv : List D} {p pos : Pos} (h : FM X.prog X.w X.K X.mg X.base c k S dv) (hr : Room (k + 1) X.A) (hg : Gl X c := by rfl) (hdb : (c == ("__debug__" : Str)) = false := by decide) : SE X (.Call (.Name c p) [] [] pos) (dMk c S dv aNil) := fun W tk O F A H σ Γ vs T M K R s lf hh => by
  obtain ⟨C, f, fd, ps, dV, dvs, mk, Fn, hm, b, vl, i⟩ := h.ex
  refine bE_of (pe_make0 (E := L2.E0) mk Fn hr hg hm b vl passL hdb) ?_
  intro x dx hx hd hne
  exact sp_mk s (Paired.app (.nil : IsL X.K X.mg A F [] []) (i _ _)) hm hh hx hd hne
end L3

namespace L3
open PySem PySem.Spec PyProof.Rows L2 Evl
open Classical
/-! ### defs that run where no repr is under way -/
structure FnG (P : Program) (w : World) (K : PySem.W.Frag) (mg : Str → Option Value) (base : Heap) (CX : CXT) (k : Nat) (f : Addr) (fd : FuncData) (ps : List Str) (sp : Sp) : Prop where
  len : ∀ vs H Q E, sp vs H Q E → vs.length = ps.length
  run : ∀ (A : Around) (outer : List Env) (s : Shared) (H : Hp) (args : Args) (us : List Value) (vs : List V) (Q : VK) (E : XK), A.guards = some [] → Room k A → Env0 P w K mg base A outer s H → BindsTo s fd args (ps.zip us) → Vals vs us → sp vs H Q E → codeAny (model P w) A (.call (.ref f) args) (CR CX outer P w H s Q E) s
theorem FnG.imp {P : Program} {w : World} {K : PySem.W.Frag} {mg : Str → Option Value} {base : Heap} {CX : CXT} {k : Nat} {f : Addr} {fd : FuncData} {ps : List Str} {sp sp' : Sp} (F : FnG P w K mg base CX k f fd ps sp) (h : ∀ vs H Q E, sp' vs H Q E → sp vs H Q E) : FnG P w K mg base CX k f fd ps sp' :=
  ⟨fun vs H Q E q => F.len vs H Q E (h _ _ _ _ q), fun A outer s H args us vs Q E hg hr he hb hv hs => F.run A outer s H args us vs Q E hg hr he hb hv (h _ _ _ _ hs)⟩
def BodyG (P : Program) (w : World) (K : PySem.W.Frag) (mg : Str → Option Value) (base : Heap) (N : List Str) (qual : Str) (st : Stmt) (f : Addr) (k : Nat) (rd : DS) : Prop :=
  ∀ (cdv : Value) (A : Around) (outer : List Env) (s : Shared) (H : Hp) (E : XK), A.guards = some [] → Room k (A.deeper (envOfC qual (defScope st) s.heap.objs.size f cdv)) → SB (cxD P w K mg base N qual (defScope st) f cdv A outer s H E) (defBody st) rd
section
variable {P : Program} {w : World} {K : PySem.W.Frag} {mg : Str → Option Value} {base : Heap}
theorem fnG_run {CX : CXT} {x qual : Str} {params : Arguments} {body : List Stmt} {scope : Scope} {dvs : List V} {kws : List (Str × V)} {f : Addr} {fd : FuncData} {N ps : List Str} {k : Nat} {sp : Sp} (F : FunD K x qual params body scope dvs kws f fd) (S : FnScope N ps scope) (len : ∀ vs H Q E, sp vs H Q E → vs.length = ps.length)
    (hbody : ∀ (cdv : Value) (A : Around) (outer : List Env) (s : Shared) (H : Hp) (vs : List V) (Q : VK) (E : XK), A.guards = some [] → Room k (A.deeper (envOfC qual scope s.heap.objs.size f cdv)) → sp vs H Q E →
      ∃ t, PSs (cxOf CX P w K mg base N qual scope f cdv A outer s H E) body t ∧ t { nx := fun _ H' => Q .non H', rt := Q } (L2.start N vs) H) : FnG P w K mg base CX (k + 1) f fd ps sp := by
  obtain ⟨oc, od, dV, kV, doc, pm, an, cdv, ct, osl, efd, lk, hcd, _, _⟩ := F.ex
  subst efd
  refine ⟨len, fun A outer s H args us vs Q E hg hr e0 hb r hsp => ?_⟩
  have hl := len _ _ _ _ hsp
  have up : ∀ b o, base.get? b = some o → s.heap.get? b = some o := fun b o e => (e0.bs b o e).1
  have KX : K.In s.heap := e0.mod.kin.keeps up
  have lim : s.heap.NoLimit := e0.mod.nolimit.keeps up
  refine codeAny_call_function hr.depth (KX _ _ lk) rfl S.co S.gen rfl (PySem.W.codeRec_of KX hcd) (hb _ _ _ _ ?_)
  refine wpAny_newFunctionEnv_cells S.kind (fun y hy => ?_) fun env he s1 x => ?_
  · rcases S.par y.1 (List.of_mem_zip (a := y.1) (b := y.2) hy).1 with q | q
    · exact .inl q
    · exact .inr ⟨q, PySem.W.cellsFrom_some _ _ _ (.inl q)⟩
  · subst he
    refine ⟨lim.keeps x.toInCall.keep, codeAny_func ?_⟩
    obtain ⟨t, ht, hq⟩ := hbody cdv A outer s H vs Q E hg (hr.deeper _) hsp
    refine wpAny_mono (ht.run [] s1 (L2.start N vs) H _ (inv_start S hr.hd e0 hl r x) hq) (fun fl s' hs => ?_) fun _ _ hs => hs
    cases fl with
    | ret u =>
      obtain ⟨v, _, H', J, rv, q⟩ := hs
      exact ⟨v, H', J.os, J.bare, J.base, J.hok, rv, q⟩
    | next =>
      obtain ⟨_, H', J, q⟩ := hs
      exact ⟨V.non, H', J.os, J.bare, J.base, J.hok, rfl, q⟩
    | brk =>
      obtain ⟨_, _, _, q⟩ := hs
      exact False.elim q
    | cont =>
      obtain ⟨_, _, _, q⟩ := hs
      exact False.elim q
theorem fn_anyG {x qual : Str} {st : Stmt} {dvs : List V} {kws : List (Str × V)} {f : Addr} {fd : FuncData} {N ps : List Str} {k : Nat} {S : DSpec} {rd : DS} {en : Nat → Kd → Kx → DEnds} (F : FnP K x qual st dvs kws f fd) (Sc : FnScope N ps (defScope st)) (eo : EndOk en) (len : ∀ ds M K0 R0, S ds M K0 R0 → ds.length = ps.length)
    (body : BodyG P w K mg base N qual st f k rd) (sem : ∀ ds M K0 R0, S ds M K0 R0 → rd (en M.length K0 R0) (startG N.length ds) M) : FnG P w K mg base (L2.CX P w) (k + 1) f fd ps (spOf K mg S) := by
  refine fnG_run F Sc (fun vs H Q E h => ?_) (fun cdv A outer s H vs Q E hg hr hsp => ⟨_, bB_ok, ?_⟩)
  · obtain ⟨F0, A0, M, ds, K0, R0, m, p, hS, _⟩ := h
    rw [p.len]
    exact len ds M K0 R0 hS
  · obtain ⟨F0, A0, M, ds, K0, R0, m, p, hS, hq, he⟩ := hsp
    have hb := body cdv A outer s H E hg hr
    have st0 : StOk (cxD P w K mg base N qual (defScope st) f cdv A outer s H E) ⟨F0, H, A0⟩ F0 A0 H (L2.start N vs) (startG N.length ds) [] [] M := start_ok m p
    have tk : Takes (cxD P w K mg base N qual (defScope st) f cdv A outer s H E) (fun cls d _ H => E cls d H) := takes_of rfl rfl rfl rfl
    refine bB_mono (hb _ tk ⟨F0, H, A0⟩ F0 A0 H _ _ [] [] M (en M.length K0 R0) st0 ?_ (sem ds M K0 R0 hS)) ?_ ?_ ?_ ?_
    · intro x' σ' Γ' M' F' A' H' cls d s' xi h
      obtain ⟨A2, M2, w2, m2, i2, k2⟩ := eo.rz (K0 := K0) m.len.symm s' xi h
      exact he x' M2 k2 cls d F' A2 H' w2 m2 i2
    · rintro σ' H' ⟨Γ', M', F', A', s', h⟩
      obtain ⟨A2, M2, w2, m2, k2⟩ := eo.nx (R0 := R0) m.len.symm s' h
      exact hq .non M2 k2 .non F' A2 H' w2 m2 .non
    · rintro v H' ⟨d, M', F', A', σ', Γ', s', h⟩
      obtain ⟨A2, M2, d2, w2, m2, i2, k2⟩ := eo.rt (R0 := R0) m.len.symm s'.pop s'.top h
      exact hq d2 M2 k2 v F' A2 H' w2 m2 i2
    · rintro σ' H' ⟨Γ', M', F', A', s', h⟩
      exact eo.bk h
    · rintro σ' H' ⟨Γ', M', F', A', s', h⟩
      exact eo.ct h
end
/-! ### repr of a list or a tuple -/
def isLs : D → Prop
  | .cel _ | .ls _ | .tp _ | .rl _ => True
  | _ => False
def rRepr : DC := fun ds M K => ∃ d, ds = [d] ∧ isLs d ∧ Pl 9 (view M d) ∧ (toP 9 (view M d)).showable = true ∧ (toP 9 (view M d)).hasDict = false ∧ (toP 9 (view M d)).shown.length ≤ sizeLine ∧ K (.tx (toP 9 (view M d)).shown) M
theorem cd_repr {X : Cx} (hg : X.A.guards = some []) (hu : X.A.units + 200 < cLine) : CallD X (.builtin "repr") rRepr := by
  intro O F A H σ Γ vs T M K ws ds s is ⟨d, e, hl, hp, h1, h2, h3, k⟩
  subst e
  cases is with
  | cons i1 t =>
    cases t
    rename_i v
    obtain ⟨a, rfl⟩ : ∃ a, v = .ref a := by
      cases d <;> first | exact hl.elim | (cases i1; exact ⟨_, rfl⟩)
    obtain ⟨dp, sh⟩ := s.dp i1 hp
    refine ⟨fun xs H' Q' => xs = [.ref a] ∧ H' = H ∧ Q' = Post X O σ Γ vs T K, fun pins st σ' H' xs us Q' I r ⟨e1, e2, e3⟩ => ?_, rfl, rfl, rfl⟩
    subst e1 e2 e3
    obtain ⟨u, rfl, r1⟩ := vals1 r
    cases (show u = Value.ref a from r1)
    obtain ⟨as, rd⟩ := dp.reads I (toP 9 (view M d)) (.ref a) (.ref a) rfl
    have hdep : (toP 9 (view M d)).depth ≤ 64 := by
      unfold SeqAt.shaped at sh
      have := (Bool.and_eq_true _ _ ▸ sh)
      simpa using this.2
    refine repr_of_reads' rd h1 (fun z => by rw [h2] at z; cases z) hg (by omega) (fun _ _ e => e) (fun h' u tk hk => ?_) h3
    exact ⟨.str _, H', I.kept hk, ⟨_, rfl⟩, .tx _, M, F, A, s.push (.tx _), k⟩
end L3

namespace L3
open PySem PySem.Spec PyProof.Rows L2 Evl
open Classical
/-! ### the law, called where no repr is under way -/
theorem law_coreG {P : Program} {w : World} {K : PySem.W.Frag} {mg mb : Str → Option Value} {CX : CXT} {k : Nat} {fa a : Addr} {fd : FuncData} {x : Str} {sp : Sp} {s₁ : Shared} {oa : Obj} {vs : List Value} {n : Nat} {H : Hp}
    (KX : K.In s₁.heap) (hns : s₁.heap.Ns mainGlobals mg) (hb : s₁.heap.Ns builtinsNs mb) (hbb : ∀ x : Str, x ≠ "__name__" → mb x = bootBuiltins x) (hlim : s₁.heap.NoLimit) (hg : s₁.gens = #[])
    (ha : s₁.heap.get? a = some oa) (hoa : oa.data = .seq vs.toArray n) (hr : Room k callerA)
    (F : ∀ base : Heap, K.In base → base.Ns mainGlobals mg → FnG P w K mg base CX k fa fd [x] sp) (hbind : ∀ (s : Shared) (u : Value), BindsTo s fd ⟨[u], []⟩ [(x, u)])
    (hCX : ∀ H e s', CX [] H s₁ (fun _ _ _ => False) e s' → False)
    (hO : Only H) (hS : sp [.ref a] H (fun v _ => v = .bl true) fun _ _ _ => False) (hok : HOk P w H s₁.heap) (hA : ∀ b, H b ≠ none → b = a) (hK : H a ≠ none → K.lookup a = none) :
    codeAny (model P w) callerA (.call (.ref fa) ⟨[.ref a], []⟩) (fun r s' => r = .ok (.ret (.bool true)) ∧ OldK s₁.heap s'.heap ∧ s'.os = s₁.os ∧ AllBare s'.gens) s₁ := by
  have free : ∀ {b : Addr}, b ≠ a → H b = none := fun {b} h => Classical.byContradiction fun z => h (hA b z)
  have keep : ∀ {b : Addr} {o : Obj}, s₁.heap.get? b = some o → H b = none → (hidT s₁.heap H).get? b = some o := fun e z => hidT_get e z
  have notA : ∀ {b : Addr} {o : Obj} {es : Array DictEntry} {ep : Nat}, s₁.heap.get? b = some o → o.data = .dict es ep → H b = none := by
    intro b o es ep e d
    refine free fun z => ?_
    rw [z, ha] at e
    cases e
    rw [hoa] at d
    cases d
  have nsK : ∀ {b : Addr} {m : Str → Option Value}, s₁.heap.Ns b m → (hidT s₁.heap H).Ns b m := fun ⟨o, es, ep, e, d, r⟩ => ⟨o, es, ep, keep e (notA e d), d, r⟩
  have inK : K.In (hidT s₁.heap H) := by
    intro b o e
    refine keep (KX b o e) (Classical.byContradiction fun z => ?_)
    have z2 := hA b z
    subst z2
    rw [hK z] at e
    cases e
  have md : Mod K mg (hidT s₁.heap H) := by
    obtain ⟨mc, l1, l2⟩ := hlim
    exact ⟨inK, nsK hns, ⟨mb, nsK hb, hbb⟩, ⟨mc, nsK l1, l2⟩⟩
  have e0 : Env0 P w K mg (hidT s₁.heap H) callerA [] s₁ H := ⟨rfl, md, fun b o e => of_hidT e, Nat.le_of_eq (hidT_size _ _), trivial, (fun b h => by cases h), hok, .of_eq hg⟩
  refine codeAny_mono ((F _ inK (nsK hns)).run callerA [] s₁ H ⟨[.ref a], []⟩ [.ref a] [.ref a] _ _ rfl hr e0 (hbind s₁ (.ref a)) (.cons rfl .nil) hS) fun r s' h => ?_
  cases r with
  | error e => exact (hCX H e s' h).elim
  | ok fl =>
    cases fl with
    | next => exact False.elim h
    | brk => exact False.elim h
    | cont => exact False.elim h
    | ret u =>
      obtain ⟨v, H', os, bare, un, hok', r', q⟩ := h
      cases (show v = V.bl true from q)
      cases (show u = Value.bool true from r')
      refine ⟨rfl, OldK.of_keep fun b o e => ?_, os, bare⟩
      rcases hO b with z | ⟨ob, xs, z⟩
      · exact un.keep b o e z (fun z => by cases z) (fun z => by cases z)
      · obtain ⟨e1, _⟩ := hok b _ z
        obtain ⟨e2, _⟩ := hok' b _ (un.frzs b ob _ z)
        rw [e] at e1
        cases e1
        exact e2
theorem law_callG {P : Program} {w : World} {K : PySem.W.Frag} {mg mb : Str → Option Value} {CX : CXT} {k : Nat} {fa a : Addr} {fd : FuncData} {x : Str} {sp : Sp} {s₁ : Shared} {vs : List Value} {ns : List Int}
    (KX : K.In s₁.heap) (hns : s₁.heap.Ns mainGlobals mg) (hb : s₁.heap.Ns builtinsNs mb) (hbb : ∀ x : Str, x ≠ "__name__" → mb x = bootBuiltins x) (hlim : s₁.heap.NoLimit) (hg : s₁.gens = #[])
    (ha : s₁.heap.get? a = some { cls := .type "list", data := .seq vs.toArray }) (hi : IntsAre vs ns) (hl : ns.length ≤ sizeLine) (hr : Room k callerA)
    (F : ∀ base : Heap, K.In base → base.Ns mainGlobals mg → FnG P w K mg base CX k fa fd [x] sp) (hbind : ∀ (s : Shared) (u : Value), BindsTo s fd ⟨[u], []⟩ [(x, u)])
    (hsp : ∀ H : Hp, Only H → SqL K H a (ns.map V.int) → sp [.ref a] H (fun v _ => v = .bl true) fun _ _ _ => False)
    (hCX : ∀ H e s', CX [] H s₁ (fun _ _ _ => False) e s' → False) :
    codeAny (model P w) callerA (.call (.ref fa) ⟨[.ref a], []⟩) (fun r s' => r = .ok (.ret (.bool true)) ∧ OldK s₁.heap s'.heap ∧ s'.os = s₁.os ∧ AllBare s'.gens) s₁ := by
  have rv := vals_ints hi
  cases q : K.lookup a with
  | some o =>
    have e := KX a o q
    rw [ha] at e
    cases e
    have O0 : Only (fun _ => none) := fun _ => .inl rfl
    have S0 : SqL K (fun _ => none) a (ns.map V.int) := .inr ⟨_, vs.toArray, _, q, rfl, rfl, rfl, by rw [List.size_toArray, hi.length]; exact hl, by simpa using rv⟩
    exact law_coreG (H := fun _ => none) KX hns hb hbb hlim hg ha rfl hr F hbind hCX O0 (hsp _ O0 S0) (fun b u z => by cases (show (none : Option HO) = some u from z)) (fun b z => absurd rfl z) (fun z => absurd rfl z)
  | none =>
    let H : Hp := fun b => if b = a then some (.frz { cls := .type "list", data := .seq vs.toArray } (.lst (ns.map V.int))) else none
    have Ha : H a = some (.frz { cls := .type "list", data := .seq vs.toArray } (.lst (ns.map V.int))) := if_pos rfl
    have Hb : ∀ b, b ≠ a → H b = none := fun b h => if_neg h
    have O1 : Only H := fun b => by
      by_cases h : b = a
      · exact .inr ⟨_, _, by rw [h]; exact Ha⟩
      · exact .inl (Hb b h)
    have S1 : SqL K H a (ns.map V.int) := .inl (.inr ⟨{ cls := .type "list", data := .seq vs.toArray }, Ha⟩)
    refine law_coreG (H := H) KX hns hb hbb hlim hg ha rfl hr F hbind hCX O1 (hsp _ O1 S1) (fun b u z => ?_) (fun b z => Classical.byContradiction fun h => z (Hb b h)) (fun _ => q)
    by_cases h : b = a
    · subst h
      rw [Ha] at z
      cases z
      exact ⟨ha, by rw [List.length_map]; exact hl, vs, _, rv, ha⟩
    · rw [Hb b h] at z
      cases z
theorem walk_ofEwG {l : PySem.W.OpenLaw} {n k : Nat} {q : Program} {loose : List Str} {XP : (Str → Option Value) → Heap → Prop} {YP : World → Heap → Prop} {d : DefRec} {CX : World → CXT} {x : Str}
    (hn : l.most = some n) (hn2 : n ≤ sizeLine) (hdf : d.params.defaults = []) (hr : Room k callerA)
    (F : ∀ (w : World) (mg : Str → Option Value) (fa : Addr) (h : Heap), YP w h → h.Ns mainGlobals mg → mg d.name = some (.ref fa) →
      ∃ (K : PySem.W.Frag) (fd : FuncData) (sp : Sp), K.In h ∧ (∀ (s : Shared) (u : Value), BindsTo s fd ⟨[u], []⟩ [(x, u)]) ∧
        (∀ (H : Hp) (a : Addr) (ns : List Int), ns.length ≤ n → Only H → SqL K H a (ns.map V.int) → sp [.ref a] H (fun v _ => v = .bl true) fun _ _ _ => False) ∧
        ∀ base : Heap, K.In base → base.Ns mainGlobals mg → FnG l.prog w K mg base (CX w) k fa fd [x] sp)
    (hCX : ∀ (w : World) (H : Hp) (s : Shared) (e : Value) (s' : Shared), CX w [] H s (fun _ _ _ => False) e s' → False) :
    PySem.W.WalkO q loose XP YP l.row.toRowW d [] (fun f vs => PySem.call f vs) := by
  refine Att.attach_call hn hdf fun w s₀ s₁ mg mb fa o pm cd doc a vs ns G Y ho hd hcd hmg hobj hints hlen hg => ?_
  obtain ⟨K, fd, sp, KX, hb, hsp, hF⟩ := F w mg fa _ Y G.T.g hmg
  exact law_callG KX G.T.g G.T.b G.T.builtins G.T.nolimit hg hobj hints (Nat.le_trans hlen hn2) hr hF hb (fun H hO hS => hsp H a ns hlen hO hS) fun H e s' => hCX w H s₁ e s'
theorem law_fnG {P : Program} {w : World} {K : PySem.W.Frag} {mg : Str → Option Value} {base : Heap} {CX : CXT} {k : Nat} {f : Addr} {fd : FuncData} {ps : List Str} (F : FnG P w K mg base CX k f fd ps (spOf K mg sLaw)) : FnG P w K mg base CX k f fd ps (spLaw K) := by
  refine F.imp fun vs H Q E h => ?_
  obtain ⟨a, ns, rfl, hS, hl, q⟩ := h
  refine ⟨H, [], [], [.rl (ns.map .int)], fun d _ => d = .bl true, fun _ _ => False, ⟨Ex.refl _, List.nodup_nil, fun _ h => (nomatch h), rfl, fun k a m h => by simp at h⟩, .cons (.rl hS (by simp) fun i x d h1 h2 => ?_) .nil, ⟨ns, rfl, rfl, hl, rfl⟩, fun d M' e v F' A' H' _ _ i => ?_, fun _ _ h => h.elim⟩
  · rw [List.getElem?_map] at h1 h2
    cases q : ns[i]? with
    | none => rw [q] at h1; cases h1
    | some z =>
      rw [q] at h1 h2
      cases h1; cases h2
      exact .int z
  · subst e
    rw [is_bl i]
    exact q H'
/-! ### shown texts compared -/
def rNeTx : DO2 := fun x y M K => ∃ s t : Str, x = .tx s ∧ y = .tx t ∧ K (.bl (!decide (s = t))) M
theorem opd_neTx {X : Cx} (hu : X.A.units + 64 < cLine) : OpDB X (compareOp .NotEq) rNeTx := by
  intro O F A H σ Γ vs T M K v1 v2 d1 d2 s i1 i2 ⟨a, b, e1, e2, k⟩
  subst e1 e2
  cases is_tx i1
  cases is_tx i2
  refine bO_of op_ne ⟨rfl, ?_⟩
  have e : decide (V.str a = V.str b) = decide (a = b) := decide_eq_decide.mpr ⟨V.str.inj, fun h => congrArg V.str h⟩
  rw [e]
  exact ⟨.bl _, M, F, A, s.push (.bl _), ⟨_, rfl⟩, k⟩
theorem room200 {k : Nat} {A : Around} (r : Room k A) : A.units + 200 < cLine := by have := r.un; omega
end L3

namespace PySem
namespace GX
open PySem.W PySem.Calls PyProof.Rows Builtin Builtin.ObjectAttr
section
variable {prog : Program} {w : World} {A : Around} {E : Value → Shared → Prop} {R : Result → Shared → Prop} {hp : Heap} {g : Array GenState} {d : Drawn} {t : Nat} {os : OsState}
/-- the first field of an exception of a class over B -/
theorem gosa {B : String} {bm : List Value} {Kf : W.Frag} {fn : Str} {tok : Tok} {fv : Value} {e C : Addr} {flds : Array Value} {cd : ClassData} (SB : StoreFacts B bm "object.__setattr__" "object")
    (KI : Kf.In hp) (he : hp.get? e = some { cls := .ref C, data := .fields flds }) (hc : W.clsIn Kf C = some cd) (hmro : cd.mro = .ref C :: bm) (hdc : cd.hasDict = true) (hno : W.findIn Kf (.ref C) fn = some none)
    (fin : ∀ h2 tok2 dx, (∀ b o, b ≠ e → hp.get? b = some o → h2.get? b = some o) → hp.objs.size ≤ dx → dx ≠ e → h2.get? e = some { cls := .ref C, dict := some dx, data := .fields flds } →
      h2.Ns1 dx (fun z => if z = fn then some fv else none) → R (.ok (.ret .none)) ⟨h2, g, d, tok2, os⟩) :
    codeAny (model prog w) A (.call (.builtin "object.__setattr__") ⟨[.ref e, .str fn tok, fv], []⟩) R ⟨hp, g, d, t, os⟩ := by
  have IA : W.InstAt hp e { cls := .ref C, data := .fields flds } C none := ⟨he, rfl, rfl, trivial⟩
  have SO := F.store_object
  have hoB : cd.mro.contains (.type "object") = true := by rw [hmro, List.contains_cons, SB.hasOwner, Bool.or_true]
  have neS : e ≠ hp.objs.size := Nat.ne_of_lt (Heap.lt_size he)
  have subO : W.Looks (model prog w) hp (isInstance (.ref e) (.type "object")) true := IA.type.andThen (W.looks_mroIn KI (by unfold W.mroIn; rw [hc, Option.bind_some, if_neg (by rw [hmro]; exact Bool.false_ne_true), hoB]))
  refine codeAny_call_builtin SO.slot.plain SO.entry (@W.check_slot (model prog w) _ _ ⟨hp, g, d, t, os⟩ "object.__setattr__" "object" "__setattr__" (.ref e) [.str fn tok, fv] [] _ SO.kind SO.split subO (SO.args (.ref e) (.str fn tok) fv) ?_)
  have lm : W.Looks (model prog w) hp (mroOf (.ref C)) cd.mro := (W.looks_clsIn KI hc).andThen .now
  have ls : W.Looks (model prog w) hp (storeTaker? none) none := .now
  have lc : W.Looks (model prog w) hp (classData C) cd := W.looks_clsIn KI hc
  rw [W.osa_eq, refuse_eq]
  refine wpAny_bind (wpAny_bind (IA.type.at (wpAny_bind (lm.at ?_))))
  rw [hmro, refuseLoop_ref, SB.passes]
  refine wpAny_pure (wpAny_bind (IA.type.at (wpAny_bind ((W.looks_findIn KI hno).at (wpAny_bind (ls.at ?_))))))
  show wpAny _ _ (storeInOwnDict (.ref e) (.ref C) (.str fn tok) fn fv false) _ _ _
  obtain ⟨nm, bs, mro, ns, qn, hd, sn, sb, ab, col, del⟩ := cd
  dsimp only at hdc
  subst hdc
  unfold storeInOwnDict ownDictForStores
  repeat (first | with_reducible refine HandSPX.store_in_new ?_ ?_ | with_reducible refine wpAny_loadPart_at he ?_ | with_reducible refine lc.at ?_ | wp_step)
  · exact ⟨_, #[], _, (Heap.get?_update_ne _ _ _ _ neS.symm).trans (Heap.get?_push_at rfl rfl), rfl, fun q hq => absurd hq (by simp), fun _ => rfl⟩
  · intro h2 tok2 hn2 hs2
    have he2 : (hp.push { cls := .type "dict", data := .dict #[] }).get? e = some { cls := .ref C, data := .fields flds } := Heap.get?_push_of_some _ he
    refine fin h2 tok2 hp.objs.size (fun b o hb ho => ?_) (Nat.le_refl _) neS.symm ?_ hn2
    · exact (hs2.2 b (Nat.ne_of_lt (Heap.lt_size ho))).trans ((Heap.get?_update_ne _ _ _ _ hb).trans (Heap.get?_push_of_some _ ho))
    · exact (hs2.2 e neS).trans (Heap.get?_update_self _ he2 rfl)
end
end GX
end PySem
namespace L3
open PySem PySem.Spec PyProof.Rows L2 Evl
open Classical
/-! ### own exceptions: classes over ValueError or TypeError with an own __init__ of one field -/
/-- what raising such a class asks -/
structure OexG (K : PySem.W.Frag) (C : Addr) : Prop where
  cls : ∃ B nid iid bm nm q N bs sn sub ab col dd k0 k1 k2 k3 k5, ExcBaseFacts B nid iid bm ∧ StoreFacts B bm "object.__setattr__" "object" ∧ K.lookup C = some (excClassObj nm q C N bs bm true sn sub ab col dd k0 k1 k2 k3 k5 nid)
  sa : PySem.W.findIn K (.ref C) "__setattr__" = some (some (.builtin "object.__setattr__"))
  exC : PySem.W.subIn K (.ref C) (.type "BaseException") = some true
  tyC : PySem.W.typeIn K (.ref C) = some (.type "type")
  kC : PySem.W.keepIn K (.ref C) = true
section
variable {X : Cx} {pins : List (Addr × Obj)} {σ : L2.St} {H : Hp} {s : Shared} {a C : Addr} {f : Str} {y : V} {u : Value} {Q : Unit → Shared → Prop} {E : Value → Shared → Prop} {A : Around}
/-- self.f = y -/
theorem gst_new (T : OexG X.K C) (I : Inv X pins σ H s) (e : H a = some (exo a C none)) (hno : PySem.W.findIn X.K (.ref C) f = some none) (ry : RelV y u)
    (fin : ∀ dx s2, H dx = none → dx ≠ a → Inv X pins σ (upd (upd H dx (exd dx [(f, y)])) a (exo a C (some dx))) s2 → Q () s2) : wpAny (model X.prog X.w) A (setAttr (.ref a) f u) Q E s := by
  obtain ⟨B, nid, iid, bm, nm, q, N, bs, sn, sub, ab, col, dd, k0, k1, k2, k3, k5, FB, SB, hC⟩ := T.cls
  have hcl : PySem.W.clsIn X.K C = some { name := nm, bases := bs, mro := .ref C :: bm, ns := N, qualname := q, hasDict := true, slotNames := sn, subclasses := sub, abstract := ab, collection := col, hasDel := false } := by unfold PySem.W.clsIn; rw [hC]
  obtain ⟨t1, ho⟩ := exo_at I.hok e
  obtain ⟨hp, g, d, t, os⟩ := s
  refine PySem.W.set_plain I.kIn (ox := { cls := .ref C, dict := none, data := .fields #[.ref t1, .none, .none, .none, .bool false, .none] }) (od := none) ⟨ho, rfl, rfl, trivial⟩ T.sa ?_
  refine PySem.GX.gosa SB I.kIn ho hcl rfl rfl hno (fun h2 tok2 dx kp dn dne hx hn => ?_)
  have hnd : H dx = none := I.hok.fresh dn
  have nd : ∀ {b : Addr} {o : Obj}, hp.get? b = some o → b ≠ dx := fun {b o} z => Nat.ne_of_lt (Nat.lt_of_lt_of_le (Heap.lt_size z) dn)
  have na : ∀ {b : Addr}, H b = none → b ≠ a := fun {b} z w => by rw [w, e] at z; cases z
  have U1 : Un X.fs [] H (upd (upd H dx (exd dx [(f, y)])) a (exo a C (some dx))) hp h2 :=
    ⟨fun b o z n _ _ => kp b o (na n) z, fun b o z n _ _ => ⟨o.slots, kp b o (na n) z⟩, fun b o z n _ => by rw [upd_ne (na n), upd_ne (nd z)]; exact n, fun b o z _ => by
      by_cases hb : b = a
      · exact ⟨_, by rw [hb]; exact hx⟩
      · exact ⟨o, kp b o hb z⟩,
    fun b xs z => by rw [upd_ne (at_ne e z exo_tup), upd_ne (ne_of_none z hnd)]; exact z, fun b o v z => by rw [upd_ne (at_ne e z exo_frz), upd_ne (ne_of_none z hnd)]; exact z,
    fun b ps z => ⟨#[], by rw [upd_ne (at_ne e z exo_tbl), upd_ne (ne_of_none z hnd), z]; simp⟩⟩
  refine fin dx _ hnd dne (I.un (t' := tok2) U1 fun b o z => ?_)
  by_cases hb : b = a
  · subst hb
    rw [upd_same] at z
    cases z
    exact exo_ok hx
  · rw [upd_ne hb] at z
    by_cases hd : b = dx
    · subst hd
      rw [upd_same] at z
      cases z
      exact exd_ok hn (relO_put (fs := []) ry fun g => True.intro)
    · rw [upd_ne hd] at z
      exact (I.hok b o z).stay (fun c v hc w => kp c v (by
          rcases hc with hc | hc
          · rw [hc]; exact hb
          · exact at_ne e hc exo_own) w)
        (fun c hc => by rw [upd_ne (at_ne e hc exo_own), upd_ne (ne_of_none hc hnd)]; exact hc) (fun c xs hc => by rw [upd_ne (at_ne e hc exo_tup), upd_ne (ne_of_none hc hnd)]; exact hc)
end
/-- self.f = e, the only field -/
def tGst (K : PySem.W.Frag) (f : Str) (to te : TE) : TS := fun D σ H => te σ H fun y H1 => to σ H1 fun x H2 => ∃ a C : Addr, x = .ref a ∧ OexG K C ∧ PySem.W.findIn K (.ref C) f = some none ∧ H2 a = some (exo a C none) ∧
  ∀ dx, H2 dx = none → dx ≠ a → D.nx σ (upd (upd H2 dx (exd dx [(f, y)])) a (exo a C (some dx)))
theorem ps_gst {X : Cx} {o e : Expr} {to te : TE} {f : Str} {p' pos : Pos} (ho : PE X o to) (he : PE X e te) (hs : swapsWith e (some (.Attribute o f p')) pos.line X.env = pure false := by rfl) : PS X (.Assign [.Attribute o f p'] e pos) (tGst X.K f to te) := by
  refine ⟨fun pins s σ H D I h => ?_⟩
  refine plainObj_wpAny_Assign_Attribute (thn (he.run pins s σ H _ I h) fun v s1 ⟨y, H1, I1, r1, q1⟩ => thn (ho.run pins s1 σ H1 _ I1 q1) fun u s2 ⟨x, H2, I2, r2, a, C, ex, T, hno, ea, q⟩ => ?_) hs
  subst ex
  obtain rfl : u = Value.ref a := r2
  exact gst_new T I2 ea hno r1 fun dx s3 n ne J => ⟨σ, _, J, q dx n ne⟩
/-- what such an __init__ promises -/
def spIni (K : PySem.W.Frag) (f : Str) : Sp := fun vs H Q _ => ∃ (a C : Addr) (y : V), vs = [.ref a, y] ∧ OexG K C ∧ PySem.W.findIn K (.ref C) f = some none ∧ H a = some (exo a C none) ∧
  ∀ dx, H dx = none → dx ≠ a → Q .non (upd (upd H dx (exd dx [(f, y)])) a (exo a C (some dx)))
section
variable {P : Program} {w : World} {K : PySem.W.Frag} {mg : Str → Option Value} {base : Heap}
/-- the def of such an __init__ -/
theorem ini_ok {x qual p1 fl : Str} {st : Stmt} {f : Addr} {fd : FuncData} (F : FnP K x qual st [] [] f fd) (Sc : FnScope ["self", p1] ["self", p1] (defScope st))
    (body : ∀ (cdv : Value) (A : Around) (outer : List Env) (s : Shared) (H : Hp) (E : XK), PSs (cxD P w K mg base ["self", p1] qual (defScope st) f cdv A outer s H E) (defBody st) (tGst K fl (tVar 0) (tVar 1))) : FnOk P w K mg base (L2.CX P w) 1 f fd ["self", p1] (spIni K fl) := by
  refine F.ok (k := 0) Sc (fun vs H Q E h => ?_) (fun cdv A outer s H vs Q E hr hsp => ⟨_, body cdv A outer s H E, ?_⟩)
  · obtain ⟨a, C, y, rfl, _⟩ := h
    rfl
  · obtain ⟨a, C, y, rfl, T, hno, e, q⟩ := hsp
    exact ⟨y, rfl, .ref a, rfl, a, C, rfl, T, hno, e, q⟩
end
/-- C(e), an exception -/
def tMkG (C : Addr) (f : Str) (ta : TA) : L2.St → Hp → XK → Prop := fun σ H Q => ta σ H fun vs H1 => ∃ y, vs = [y] ∧ ∀ dx, H1 dx = none → Q (.ref C) (some dx) (upd H1 dx (.xd [(f, y)]))
theorem pmk_g {X : Cx} {x f : Str} {C fI : Addr} {k : Nat} {fd : FuncData} {ps : List Str} {e : Expr} {es : List Expr} {ta : TA} {p pos : Pos} (T : OexG X.K C) (iC : PySem.W.findIn X.K (.ref C) "__init__" = some (some (.ref fI))) (tI : PySem.W.typeIn X.K (.ref fI) = some (.type "function"))
    (hno : PySem.W.findIn X.K (.ref C) f = some none) (F1 : FnOk X.prog X.w X.K X.mg X.base (L2.CX X.prog X.w) k fI fd ps (spIni X.K f)) (hr : Room (k + 1) X.A) (hb : Binds X.K fd ps []) (hg : Gl X x) (hm : X.mg x = some (.ref C)) (ha : PA X (e :: es) ta)
    (hdb : (x == ("__debug__" : Str)) = false := by decide) (he : starEach (e :: es) X.env = (false, eval e X.env) :: starEach es X.env := by rfl) (hpl : (backTo pos (starEach es X.env)).any (·.1) = false := by rfl) :
    PMk X (.Call (.Name x p) (e :: es) [] pos) (tMkG C f ta) := by
  intro pins s σ H Q I h
  obtain ⟨B, nid, iid, bm, nm, q, N, bs, sn, sub, ab, col, dd, k0, k1, k2, k3, k5, FB, SB, hC⟩ := T.cls
  refine wpAny_Call_Name_kw (ld_glob I hg hm ?_ hdb)
  refine PySem.W.callWith_K (h₀ := X.base) I.ok.mod.kin T.kC (thn (ha.run pos pins s σ H _ I h) fun us s1 ⟨vs, H1, I1, r1, y, ey, q1⟩ => ⟨I1.kIn, ?_⟩) he hpl
  subst ey
  show wpAny _ _ (call (.ref C) us) _ _ _
  obtain ⟨hp, g, dr, tk, os⟩ := s1
  obtain ⟨n0, hn0⟩ : ∃ n0, n0 = hp.objs.size := ⟨_, rfl⟩
  have hz : hp.objs.size ≤ hp.objs.size + 1 := Nat.le_succ _
  have hn : H1 (hp.objs.size + 1) = none := I1.hok.fresh hz
  have kk : ∀ b o, hp.get? b = some o → ((hp.push (PySem.W.kdv_tup us)).push (PySem.HandSPX.excO C hp.objs.size)).get? b = some o := fun b o z => Heap.get?_push_of_some _ (Heap.get?_push_of_some _ z)
  have hget : ((hp.push (PySem.W.kdv_tup us)).push (PySem.HandSPX.excO C hp.objs.size)).get? (hp.objs.size + 1) = some (PySem.HandSPX.excO C hp.objs.size) := by heap_get
  have I2 : Inv X pins σ (upd H1 (hp.objs.size + 1) (exo (hp.objs.size + 1) C none)) ⟨(hp.push (PySem.W.kdv_tup us)).push (PySem.HandSPX.excO C hp.objs.size), g, dr, tk, os⟩ :=
    I1.laid (t' := tk) (a := hp.objs.size + 1) (o := exo (hp.objs.size + 1) C none) (h' := (hp.push (PySem.W.kdv_tup us)).push (PySem.HandSPX.excO C hp.objs.size)) kk hz (exo_ok hget)
  have r2 : Vals [V.ref (hp.objs.size + 1), y] (Value.ref (hp.objs.size + 1) :: (us ++ [])) := by
    rw [List.append_nil]
    exact .cons rfl r1
  have hq : spIni X.K f [V.ref (hp.objs.size + 1), y] (upd H1 (hp.objs.size + 1) (exo (hp.objs.size + 1) C none))
      (fun v H2 => v = .non ∧ ∃ d : Addr, H1 d = none ∧ H2 = upd (upd (upd H1 (hp.objs.size + 1) (exo (hp.objs.size + 1) C none)) d (exd d [(f, y)])) (hp.objs.size + 1) (exo (hp.objs.size + 1) C (some d)) ∧ d ≠ hp.objs.size + 1) L2.E0 :=
    ⟨_, C, y, rfl, T, hno, upd_same, fun dx z ne => ⟨rfl, dx, by rw [upd_ne ne] at z; exact z, rfl, ne⟩⟩
  have hl : (Value.ref (hp.objs.size + 1) :: us ++ []).length = ps.length := by
    have e1 := r2.length
    rw [F1.len _ _ _ _ hq] at e1
    exact e1.symm
  have hus : us.length ≤ sizeLine := by
    rw [← Paired.length r1, sizeLine_eq]
    show 1 ≤ _
    omega
  refine wpAny_call (PySem.HandSPX.call_own FB (fun _ => rfl) (I1.kIn _ _ hC) (PySem.W.looks_findIn I1.kIn iC) (fun self => PySem.W.bind_fn I1.kIn self tI) hus
    (codeAny_mono (F1.run _ X.stack _ _ ⟨Value.ref (hp.objs.size + 1) :: us, []⟩ (Value.ref (hp.objs.size + 1) :: (us ++ [])) _ _ L2.E0 (hr.make C us []) (I2.env0.make C us []) (by have z := hb ⟨(hp.push (PySem.W.kdv_tup us)).push (PySem.HandSPX.excO C hp.objs.size), g, dr, tk, os⟩ (Value.ref (hp.objs.size + 1) :: us) I2.kIn hl; exact z) r2 hq) fun r s' hq' => ?_))
  cases r with
  | error er => exact passL pins σ _ _ er s' I2 hq'
  | ok fl =>
    cases fl with
    | ret u =>
      obtain ⟨v, H2, os2, bare2, un2, hok2, rv, ev, d, hd1, eH, ne⟩ := hq'
      subst ev
      subst eH
      obtain ⟨h2, g2, d2, t2, os'⟩ := s'
      refine ⟨rv, mk_end (raises_own T.exC T.tyC) I1 hz kk un2 hok2 os2 bare2 upd_same (by rw [upd_ne ne, upd_same]) hd1 ?_⟩
      have eq : upd (del (upd (upd (upd H1 (hp.objs.size + 1) (exo (hp.objs.size + 1) C none)) d (exd d [(f, y)])) (hp.objs.size + 1) (exo (hp.objs.size + 1) C (some d))) (hp.objs.size + 1)) d (.xd [(f, y)]) = upd H1 d (.xd [(f, y)]) := by
        funext b
        by_cases z : b = d
        · subst z
          rw [upd_same, upd_same]
        · rw [upd_ne z, upd_ne z]
          by_cases z2 : b = hp.objs.size + 1
          · subst z2
            rw [del_same, hn]
          · rw [del_ne z2, upd_ne z2, upd_ne z, upd_ne z2]
      rw [eq]
      exact q1 d hd1
    | next => exact False.elim hq'
    | brk => exact False.elim hq'
    | cont => exact False.elim hq'
/-- an own exception as its users know it -/
structure FX (P : Program) (w : World) (K : PySem.W.Frag) (mg : Str → Option Value) (base : Heap) (c f : Str) : Prop where
  ex : ∃ C fI fd ps, mg c = some (.ref C) ∧ OexG K C ∧ XfC K C ∧ PySem.W.findIn K (.ref C) "__init__" = some (some (.ref fI)) ∧ PySem.W.typeIn K (.ref fI) = some (.type "function") ∧ PySem.W.findIn K (.ref C) f = some none ∧ PySem.W.exmOne K (.ref C) (.ref C) = some true ∧
    FnOk P w K mg base (L2.CX P w) 1 fI fd ps (spIni K f) ∧ Binds K fd ps []
/-- raise c(e) -/
def dRaise (c f : Str) (t : DE) : DS := fun E Γ M => t Γ M (fun d M1 => E.rz ⟨c, [f], [d]⟩ Γ M1) E.rz
section
variable {X : Cx} {c f : Str} {e : Expr} {te : DE} {p pos pos' : Pos}
theorem ss_raise (h : FX X.prog X.w X.K X.mg X.base c f) (hc : X.calm = true) (hr : Room 2 X.A) (sa : SE X e te) (hg : Gl X c := by rfl) (hdb : (c == ("__debug__" : Str)) = false := by decide)
    (he : starEach [e] X.env = (false, eval e X.env) :: starEach [] X.env := by rfl) (hpl : (backTo pos (starEach [] X.env)).any (·.1) = false := by rfl) : SS' X (.Raise (some (.Call (.Name c p) [e] [] pos)) none pos') (dRaise c f te) := fun W tk O F A H σ Γ vs T M E s lf hh => by
  obtain ⟨C, fI, fd, ps, hm, T1, _, iC, tI, hno, _, F1, hb⟩ := h.ex
  refine bS_of (ps_raise hc tk (pmk_g T1 iC tI hno F1 hr hb hg hm bA_ok hdb he hpl)) ?_
  refine bA_mono ((sa_cons sa sa_nil he) W tk O F A H σ Γ vs T M (fun ds M1 => match ds with | [d] => E.rz ⟨c, [f], [d]⟩ Γ M1 | _ => False) _ s lf ?_) ?_
  · exact hh
  · rintro ws H1 ⟨ds, M1, F1', A1, s1, pl, k⟩
    match ds, ws, pl, k with
    | [d], [y], .cons r .nil, k =>
      refine ⟨y, rfl, fun dx hd => ?_⟩
      exact lf _ σ Γ M1 _ A1 _ (.ref C) (some dx) (s1.new hd) ⟨C, hm, rfl, .inr ⟨dx, [(f, y)], rfl, upd_same, rfl, .cons (r.mono (Ex.new (fresh_back s1.exH hd)) (List.prefix_refl _)) .nil⟩⟩ k
end
end L3

namespace L3
open PySem PySem.Spec PyProof.Rows L2 Evl
open Classical
/-! ### try: .. except C as n: .. -/
/-- the clause's ends: its name goes -/
def sEnds (i : Nat) (E : DEnds) : DEnds := { nx := fun Γ M => E.nx (Γ.set i none) M, rt := E.rt, rz := fun _ _ _ => False, bk := fun Γ M => E.bk (Γ.set i none) M, ct := fun Γ M => E.ct (Γ.set i none) M }
/-- try: tb, except c as (slot i): ts a dd -/
def dTry (c : Str) (i : Nat) (tb : DS) (ts : Addr → Addr → DS) : DS := fun E Γ M => tb { E with rz := fun x Γ' M' => x.c = c ∧ x.ns ≠ [] ∧ ∀ a dd, ts a dd (sEnds i E) (Γ'.set i (some (.ex a (some dd) x.c x.ns x.l))) M' } Γ M
/-- try: tb, where nothing is raised -/
def dTry0 (tb : DS) : DS := fun E Γ M => tb { E with rz := fun _ _ _ => False } Γ M
section
variable {X : Cx} {c f n x : Str} {i : Nat} {body suite : List Stmt} {b₀ : Stmt} {np pos pos' : Pos} {tb : DS} {ts : Addr → Addr → DS}
theorem takesF {X : Cx} : Takes X (fun _ _ _ _ => False) := fun u s' xx => by
  obtain ⟨a, B, sI, pins', σ', H', cls, d, rfl, J', nb, up, sky, na, os, ag, w⟩ := xx
  exact w.elim
theorem bB_monoE {D D' : Ends} {σ : L2.St} {H : Hp} {sts : List Stmt} (h : bB X sts D σ H) (q : ∀ σ H, D.nx σ H → D'.nx σ H) (q2 : ∀ v H, D.rt v H → D'.rt v H) (q3 : ∀ σ H, D.bk σ H → D'.bk σ H) (q4 : ∀ σ H, D.ct σ H → D'.ct σ H) : bB X sts D' σ H := bB_mono h q q2 q3 q4
/-- the try statement's class: told in the module -/
structure FXc (K : PySem.W.Frag) (mg : Str → Option Value) (c : Str) : Prop where
  ex : ∃ C, mg c = some (.ref C) ∧ PySem.W.exmOne K (.ref C) (.ref C) = some true
theorem FX.cls {P : Program} {w : World} {K : PySem.W.Frag} {mg : Str → Option Value} {base : Heap} (h : FX P w K mg base c f) : FXc K mg c := by
  obtain ⟨C, fI, fd, ps, hm, T1, _, iC, tI, hno, em, F1, hb⟩ := h.ex
  exact ⟨C, hm, em⟩
theorem ss_try (h : FXc X.K X.mg c) (hs : X.stack = X.env :: X.outer) (hf : X.env.frame = some X.env.locals) (hN : X.N.Nodup) (sb : ∀ pn xe, SB (X.tr pn xe) body tb)
    (su : ∀ (a dd C : Addr) (oe : Obj) (pn : List (Addr × Obj)), X.mg c = some (.ref C) → Zc (.ref C) (some dd) oe → (∃ vs, oe.data = .fields vs) → SB (X.suite a ((a, oe) :: pn)) (b₀ :: suite) (ts a dd))
    (hi : X.N[i]? = some n := by rfl) (hln : X.env.kindOf n = some .local := by rfl) (hg : Gl X c := by rfl) (hdb : (c == ("__debug__" : Str)) = false := by decide) :
    SS' X (.Try body [.ExceptHandler (some (.Name c np)) (some n) (b₀ :: suite) pos'] [] [] pos) (dTry c i tb ts) := fun W tk O F A H σ Γ vs T M E s lf hh => by
  obtain ⟨C, hm, em⟩ := h.ex
  refine bS_of (ps_try_as (i := i) (tb := fun W' D' σ' H' => ∀ pn xe, Takes (X.tr pn xe) W' → BB (X.tr pn xe) body D' σ' H')
    (ts := fun a cls d D' σ' H' => ∀ oe pn, Zc cls d oe → (∃ vs, oe.data = .fields vs) → BB (X.suite a ((a, oe) :: pn)) (b₀ :: suite) D' σ' H') hs hf hN hi hln ⟨hg, hdb, .inl hm⟩ tk
    (fun W' pn xe t1 _ => ⟨fun pins s σ H D I q => (q pn xe t1).go pins s I⟩) (fun a oe cls d pn z1 z2 => ⟨fun pins s σ H D I q => (q oe pn z1 z2).go pins s I⟩)) ?_
  intro pn xe t1
  refine sb pn xe _ t1 O F A H σ Γ vs T M { E with rz := fun x Γ' M' => x.c = c ∧ x.ns ≠ [] ∧ ∀ a dd, ts a dd (sEnds i E) (Γ'.set i (some (.ex a (some dd) x.c x.ns x.l))) M' } s ?_ hh
  intro xd σ1 Γ1 M1 F1 A1 H1 cls d s1 xi k
  obtain ⟨k1, k2, k3⟩ := k
  obtain ⟨C', hm', rfl, xi⟩ := xi
  have e : C' = C := by
    have hm' : X.mg xd.c = some (.ref C') := hm'
    rw [k1, hm] at hm'
    cases hm'
    rfl
  subst e
  rcases xi with ⟨e1, _, _⟩ | ⟨dd, fs, rfl, hF, hn, pl⟩
  · exact absurd e1 k2
  · refine ⟨true, em, fun _ a na oe pn2 z1 z2 => ?_, fun z => by cases z⟩
    have io : Is X.K X.mg A1 F1 (.ref a) (.ex a (some dd) xd.c xd.ns xd.l) := .ex hF hn (by have := pl.len; simpa using this) pl.get
    have s2 : StOk X O F1 A1 H1 (σ1.set i (some (.ref a))) (Γ1.set i (some (.ex a (some dd) xd.c xd.ns xd.l))) vs T M1 := StOk.set s1 i io
    have q := su a dd C' oe pn2 hm z1 z2 (fun _ _ _ _ => False) takesF O F1 A1 H1 _ _ vs T M1 (sEnds i E) s2 (fun _ _ _ _ _ _ _ _ _ _ _ z => z) (k3 a dd)
    refine bB_monoE q ?_ ?_ ?_ ?_
    · rintro σ2 H2 ⟨Γ2, M2, F2, A2, s3, kk⟩
      exact ⟨Γ2.set i none, M2, F2, A2, StOk.unset s3 i, kk⟩
    · rintro v H2 ⟨d2, M2, F2, A2, σ2, Γ2, s3, kk⟩
      exact ⟨d2, M2, F2, A2, σ2, Γ2, s3, kk⟩
    · rintro σ2 H2 ⟨Γ2, M2, F2, A2, s3, kk⟩
      exact ⟨Γ2.set i none, M2, F2, A2, StOk.unset s3 i, kk⟩
    · rintro σ2 H2 ⟨Γ2, M2, F2, A2, s3, kk⟩
      exact ⟨Γ2.set i none, M2, F2, A2, StOk.unset s3 i, kk⟩
/-- nothing is raised: the clauses are never looked at -/
theorem ss_try0 {h₀ : ExceptHandler} {hds : List ExceptHandler} (sb : SB X.nox body tb) : SS' X (.Try body (h₀ :: hds) [] [] pos) (dTry0 tb) := fun W tk O F A H σ Γ vs T M E s lf hh => by
  refine bS_of (ps_try_thru0 (bB_ok (X := X.nox))) ?_
  exact sb (fun _ _ _ _ => False) takesF O F A H σ Γ vs T M { E with rz := fun _ _ _ => False } s (fun _ _ _ _ _ _ _ _ _ _ _ z => z) hh
/-- err.f in the clause -/
def dXf (a dd : Addr) (c f : Str) (t : DE) : DE := fun Γ M K R => t Γ M (fun d M1 => match d with
  | .ex a' (some d') c' ns l => a' = a ∧ d' = dd ∧ c' = c ∧ ∃ v, lkD f ns l = some v ∧ K v M1
  | _ => False) R
theorem se_xf {P : Program} {w : World} {base : Heap} {a dd C : Addr} {oe : Obj} {pn : List (Addr × Obj)} {e : Expr} {te : DE} (h : FX P w X.K X.mg base c f) (hm : X.mg c = some (.ref C)) (hz : Zc (.ref C) (some dd) oe) (hfl : ∃ vs, oe.data = .fields vs)
    (sa : SE (X.suite a ((a, oe) :: pn)) e te) (hb : attributeBase e f X.env (eval e X.env) = eval e X.env := by rfl) : SE (X.suite a ((a, oe) :: pn)) (.Attribute e f pos) (dXf a dd c f te) := fun W tk O F A H σ Γ vs T M K R s lf hh => by
  obtain ⟨C', fI, fd, ps, hm', T1, xf, iC, tI, hno, em, F1, hbd⟩ := h.ex
  have e1 : C' = C := by
    rw [hm] at hm'
    cases hm'
    rfl
  subst e1
  refine bE_of (pe_xf xf hno hz hfl bE_ok hb) ?_
  refine bE_mono (sa W tk O F A H σ Γ vs T M _ R s lf hh) fun v H1 ⟨d, M1, F1', A1, s1, k⟩ => ?_
  cases d with
  | ex a' d' c' ns l =>
    cases d' with
    | none => exact k.elim
    | some d' =>
      obtain ⟨rfl, rfl, rfl, v2, hl, kk⟩ := k
      have i := s1.top
      cases i with
      | @ex _ _ _ _ fs _ hF hn nl p =>
        subst hn
        obtain ⟨w2, h1, h2⟩ := lk_of (isL_of (by simpa using nl) p) hl
        exact ⟨rfl, rfl, d', fs, w2, rfl, s1.exH _ _ hF, h1, v2, M1, F1', A1, s1.pop.push h2, kk⟩
  | _ => exact k.elim
end
/-! ### the class's text, checked -/
def tyTail (b : String) : List Value := [.type b, .type "Exception", .type "BaseException", .type "object"]
/-- c is an own class over b with its own __init__, its instances have no class attribute f -/
def exnB (c f : Str) (b : String) : Chk := fun K => (match K.lookup (He.ga K c) with
    | some ⟨.type "type", _, .cls cd, sl⟩ => decide (cd.mro = .ref (He.ga K c) :: tyTail b) && (cd.hasDict && (!cd.hasDel && (match sl.toList with
      | [_, _, _, _, some (.builtin n), _] => decide (n = b ++ ".__new__")
      | _ => false)))
    | _ => false) && (He.eqO (PySem.W.findIn K (.ref (He.ga K c)) "__setattr__") (some (some (.builtin "object.__setattr__"))) && (decide (PySem.W.subIn K (.ref (He.ga K c)) (.type "BaseException") = some true) && (decide (PySem.W.typeIn K (.ref (He.ga K c)) = some (.type "type")) && (PySem.W.keepIn K (.ref (He.ga K c)) &&
  (xfB K (He.ga K c) && (He.eqO (PySem.W.findIn K (.ref (He.ga K c)) "__init__") (some (some (.ref (He.ma K (He.ga K c) "__init__")))) && (decide (PySem.W.typeIn K (.ref (He.ma K (He.ga K c) "__init__")) = some (.type "function")) && (He.eqO (PySem.W.findIn K (.ref (He.ga K c)) f) (some none) &&
  decide (PySem.W.exmOne K (.ref (He.ga K c)) (.ref (He.ga K c)) = some true)))))))))
theorem exnB_ok {P : Program} {w : World} {K : PySem.W.Frag} {mg : Str → Option Value} {base : Heap} {c f : Str} {b : String} {fd : FuncData} {ps : List Str} (h : exnB c f b K = true) (FB : ExcBaseFacts b (b ++ ".__new__") (b ++ ".__init__") (tyTail b)) (SB : StoreFacts b (tyTail b) "object.__setattr__" "object")
    (hm : mg c = some (.ref (He.ga K c))) (F : FnOk P w K mg base (L2.CX P w) 1 (He.ma K (He.ga K c) "__init__") fd ps (spIni K f)) (hb : Binds K fd ps []) : FX P w K mg base c f := by
  unfold exnB at h
  simp only [Bool.and_eq_true, decide_eq_true_eq] at h
  obtain ⟨h0, h1, h2, h3, h4, h5, h6, h7, h8, h9⟩ := h
  refine ⟨_, _, fd, ps, hm, ⟨?_, He.eqO_ok h1, h2, h3, h4⟩, xfB_ok h5, He.eqO_ok h6, h7, He.eqO_ok h8, h9, F, hb⟩
  split at h0
  · rename_i dd cd sl hC
    simp only [Bool.and_eq_true, decide_eq_true_eq, Bool.not_eq_true'] at h0
    obtain ⟨hmro, hd, hdl, h0⟩ := h0
    split at h0
    · rename_i k0 k1 k2 k3 n k5 hs
      have h0 := of_decide_eq_true h0
      subst h0
      obtain ⟨nm, bs, mro, ns, qn, hd', sn, sub, ab, col, del⟩ := cd
      dsimp only at hmro hd hdl
      subst hmro hd hdl
      have hsl : sl = #[k0, k1, k2, k3, some (.builtin (b ++ ".__new__")), k5] := by
        obtain ⟨l⟩ := sl
        simp only at hs
        rw [hs]
      subst hsl
      exact ⟨b, _, _, tyTail b, nm, qn, ns, bs, sn, sub, ab, col, dd, k0, k1, k2, k3, k5, FB, SB, hC⟩
    · cases h0
  · cases h0
theorem exVE : ExcBaseFacts "ValueError" ("ValueError" ++ ".__new__") ("ValueError" ++ ".__init__") (tyTail "ValueError") := F.excBase_ValueError
theorem exTE : ExcBaseFacts "TypeError" ("TypeError" ++ ".__new__") ("TypeError" ++ ".__init__") (tyTail "TypeError") := F.excBase_TypeError
theorem stVE : StoreFacts "ValueError" (tyTail "ValueError") "object.__setattr__" "object" := F.store_ValueError
theorem stTE : StoreFacts "TypeError" (tyTail "TypeError") "object.__setattr__" "object" := F.store_TypeError
end L3

namespace L3
open PySem PySem.Spec PyProof.Rows L2 Evl
open Classical

/-! ### mirrors -/
def segs (p : Tx) : List Tx := spC 47 (p.drop 1)
def pstep (acc : List Tx) (s : Tx) : List Tx := if s = [46, 46] then acc.dropLast else if s = [46] then acc else acc ++ [s]
def push (acc rows : List Tx) : List Tx := rows.foldl pstep acc
def dotty (s : Tx) : Bool := s == [46] || s == [46, 46]
def lastS (p : Tx) : Tx := (segs p).getLast (spC_ne 47 _)
def stackOf (p : Tx) : List Tx := if dotty (lastS p) = true then push [] (segs p) ++ [[]] else push [] (segs p)
def written (h : List Tx) (au : Bool) : Tx := if (au || !([47, 47].isPrefixOf (47 :: jn [47] h))) = true then 47 :: jn [47] h else 47 :: 46 :: 47 :: jn [47] h
def cleanedP (p : Tx) (au : Bool) : Tx := if [47].isPrefixOf p = true then written (stackOf p) au else p
/-! weights: no text grows too long -/
def wt (l : List Tx) : Nat := (l.map List.length).sum + l.length
theorem wt_app (a b : List Tx) : wt (a ++ b) = wt a + wt b := by
  unfold wt
  rw [List.map_append, List.sum_append, List.length_append]
  omega
theorem wt_spC (c : Nat) : ∀ l : Tx, wt (spC c l) = l.length + 1
  | [] => rfl
  | x :: r => by
    have ih := wt_spC c r
    by_cases h : x = c
    · rw [spC_hit r h]
      unfold wt at ih ⊢
      simp only [List.map_cons, List.sum_cons, List.length_cons, List.length_nil]
      omega
    · cases e : spC c r with
      | nil => exact absurd e (spC_ne c r)
      | cons a b =>
        rw [spC_miss h e]
        rw [e] at ih
        unfold wt at ih ⊢
        simp only [List.map_cons, List.sum_cons, List.length_cons] at ih ⊢
        omega
theorem wt_init (l : List Tx) : wt l.dropLast ≤ wt l := by
  rcases List.eq_nil_or_concat l with h | ⟨a, b, h⟩
  · rw [h]; exact Nat.le_refl _
  · rw [h, List.concat_eq_append, List.dropLast_concat, wt_app]
    omega
theorem wt_pstep (acc : List Tx) (s : Tx) : wt (pstep acc s) ≤ wt acc + wt [s] := by
  unfold pstep
  split
  · have := wt_init acc
    omega
  · split
    · omega
    · rw [wt_app]
      omega
theorem wt_push : ∀ (rows acc : List Tx), wt (push acc rows) ≤ wt acc + wt rows
  | [], acc => by show wt acc ≤ _; omega
  | s :: r, acc => by
    have h1 := wt_push r (pstep acc s)
    have h2 := wt_pstep acc s
    have e : wt (s :: r) = wt [s] + wt r := wt_app [s] r
    show wt (push (pstep acc s) r) ≤ _
    omega
theorem len_le_wt (l : List Tx) : l.length ≤ wt l := by unfold wt; omega
theorem wt_stackOf (p : Tx) : wt (stackOf p) ≤ p.length + 2 := by
  have h1 := wt_push (segs p) []
  have h2 : wt (segs p) = (p.drop 1).length + 1 := wt_spC 47 _
  have h3 : (p.drop 1).length ≤ p.length := by simp
  have h4 : wt ([] : List Tx) = 0 := rfl
  have h5 : wt ([[]] : List Tx) = 1 := rfl
  unfold stackOf
  split
  · rw [wt_app]; omega
  · omega
theorem jn_wt (l : List Tx) : (jn [47] l).length ≤ wt l := by
  have := jn_len [47] l
  unfold wt
  simp at this ⊢
  omega

/-! ### segments -/
def sp_p_segments : DSpec := fun ds M K _ => ∃ p : Tx, ds = [.str p] ∧ M = [] ∧ p.length ≤ 1000 ∧ K (.ls ((segs p).map .str)) []
def rd_p_segments : DS :=
  (dRet (dM mSplit (dSl (dVar 0) (dPart (dC (.int 1))) dNo) (aCons (dC (.str [47])) aNil)))
theorem sem_p_segments (ds : List D) (M : MM) (K0 : Kd) (R0 : Kx) (h : sp_p_segments ds M K0 R0) : rd_p_segments (endG M.length K0 R0) (startG 1 ds) M := by
  obtain ⟨p, rfl, rfl, hp, k⟩ := h
  simp only [rd_p_segments, dSeq, dNext, dRet, dRetN, dDrop, dSet, dIfS, dBrk, dCnt, dPar, dAug, dSetIx, dFor, dEsc, dChain, dNever, iEn, iEnS, iEnSK, iZp, dUnp, dVar, dC, dOp, dSl, dSlC, dPart, dNo, dTup, dLst, dLstC, dIf, dNot, dAnd, dOr, rNegD, dCall, dM, dM0, dApp, dFrz, dFz, dLc, dFn, dFn0, dFnK, aCons, aNil,
    qTru, qNot, qAnd, qOr, qYes, iLst, iTp, iStr', iR1, iR2, Tgt.d, setAll, wipeG, rAddD, rSubD, rMulD, rModD, rFdivD, rPowD, rOrdD, rIAddD, rIsN', rIxD, rSlD, rLen, rAbs, rMax2, rMin2, rInt1, rOrd, rListOf, rListOfC, rTupleOf, rIsiD, rAllD, rAnyD, rSumD, rHex, mLower, mUpper, mRfind, mIndex,
    mSplit, mPart, mJoin, mStarts, mEnds, startG, endG, endN, endW, eqS_iff, eqI_iff, eqB_iff, eqL_iff, lsOwn_ls, lsOf_ls, lsOf_rl, sqOf_ls, sqOf_rl, sqOf_tp, tpOf_tp, truD_ls, truD_rl, truD_tp, truD_bl, truD_int, truD_non, cPure, cNew, cBagA, sPure, isNon, flatD, tyD,
    cut_from1, cut_init, atI_0, atI_1, atI_2, atI_last, List.map_cons, List.map_nil, List.cons_append, List.nil_append, List.replicate, List.getElem?_cons_zero, List.getElem?_cons_succ, List.getElem?_nil, List.set_cons_zero, List.set_cons_succ, Option.some.injEq, exists_eq_left', exists_eq_left, Option.some_or, Option.none_or, Option.or_some, List.length_cons, List.length_nil, List.length_map, Nat.sub_zero, Nat.reduceSub, Nat.reduceAdd, Nat.reduceLeDiff, List.isEmpty_cons, List.isEmpty_nil, true_and, and_true, if_true, if_false, reduceIte, Bool.not_true, Bool.not_false, Bool.false_eq_true, reduceCtorEq, List.forall_mem_cons, List.forall_mem_nil, implies_true, List.mem_singleton, forall_eq, decide_eq_true_eq, Bool.not_eq_true', decide_eq_false_iff_not, okM0_iff, List.take_zero, gr_str_iff, gr_int_iff, gr_bl_iff, gr_non_iff, gr_lss_iff, gr_ls0_iff, sqOf_1, lsOf_1, lsOwn_1, ixN_30, ixN_31, ixN_32, setIx_iff, setIx_iff', D.cel.injEq, not_true_eq_false, not_false_eq_true]
  refine ⟨by omega, by simp; omega, k⟩
/-! ### pushed -/
def sp_p_pushed : DSpec := fun ds M K _ => ∃ h m : List Tx, ds = [.ls (h.map .str), .ls (m.map .str)] ∧ M = [] ∧ wt h + wt m ≤ 10000 ∧ K (.cel 0) [.ls ((push h m).map .str)]
def lb0_p_pushed : DS :=
  (dIfS (qTru (dOp (rEqD' false) (dVar 3) (dC (.str [46, 46]))))
    (dSet 2 (dSlC (dVar 2) dNo (dPart (rNegD (dC (.int 1))))))
    (dIfS (qTru (dOp (rEqD' true) (dVar 3) (dC (.str [46]))))
    (dSet 2 (dOp rAddDC (dVar 2) (dLst (aCons (dVar 3) aNil))))
    dNext))
def rd_p_pushed : DS :=
  (dSeq (dSet 2 (dCall rListOfC (aCons (dVar 0) aNil)))
    (dSeq (dFor (iLst (dVar 1)) (Tgt.nm 3) lb0_p_pushed)
    (dRet (dVar 2))))
theorem loop_p_pushed {chk : MM → Prop} (hc : ∀ M, chk M) {E : DEnds} {all : List D} {h : D} {res : List Tx} (m : List Tx) (acc : List Tx) (k : Nat) (M : MM) (o : Option D) (hM : M[k]? = some (.ls (acc.map .str))) (hw : wt acc + wt m ≤ 10000) (hr : push acc m = res)
    (q : ∀ k' M' o', M'[k']? = some (.ls (res.map .str)) → E.nx [some h, some (.ls all), some (.cel k'), o'] M') :
    forD chk (Tgt.nm 3) lb0_p_pushed E (m.map .str) [some h, some (.ls all), some (.cel k), o] M := by
  refine for_ind (P := fun l Γ M => ∃ m acc k o, l = m.map D.str ∧ Γ = [some h, some (.ls all), some (.cel k), o] ∧ M[k]? = some (.ls (acc.map .str)) ∧ wt acc + wt m ≤ 10000 ∧ push acc m = res) ?_ ?_ _ _ _ ⟨m, acc, k, o, rfl, rfl, hM, hw, hr⟩
  · rintro Γ M ⟨m, acc, k, o, e, rfl, hM, hw, hr⟩
    cases m with
    | nil => cases hr; exact ⟨hc _, q k M o hM⟩
    | cons => cases e
  · rintro d r Γ M N hN ⟨m, acc, k, o, e, rfl, hM, hw, hr⟩
    cases m with
    | nil => cases e
    | cons s m =>
      cases e
      have e : wt (s :: m) = wt [s] + wt m := wt_app [s] m
      have h2 := wt_pstep acc s
      have hr : push (pstep acc s) m = res := hr
      have go : ∀ k M, M[k]? = some (.ls ((pstep acc s).map .str)) → N [some h, some (.ls all), some (.cel k), some (.str s)] M := fun k M hM => hN _ _ ⟨m, _, k, _, rfl, rfl, hM, by omega, hr⟩
      refine ⟨hc _, ?_⟩
      simp only [lb0_p_pushed, dSeq, dNext, dRet, dRetN, dDrop, dSet, dIfS, dBrk, dCnt, dPar, dAug, dSetIx, dFor, dEsc, dChain, dNever, iEn, iEnS, iEnSK, iZp, dUnp, dVar, dC, dOp, dSl, dSlC, dPart, dNo, dTup, dLst, dLstC, dIf, dNot, dAnd, dOr, rNegD, dCall, dM, dM0, dApp, dFrz, dFz, dLc, dFn, dFn0, dFnK, aCons, aNil,
    qTru, qNot, qAnd, qOr, qYes, iLst, iTp, iStr', iR1, iR2, Tgt.d, setAll, wipeG, rAddD, rSubD, rMulD, rModD, rFdivD, rPowD, rOrdD, rIAddD, rIsN', rIxD, rSlD, rLen, rAbs, rMax2, rMin2, rInt1, rOrd, rListOf, rListOfC, rTupleOf, rIsiD, rAllD, rAnyD, rSumD, rHex, mLower, mUpper, mRfind, mIndex,
    mSplit, mPart, mJoin, mStarts, mEnds, startG, endG, endN, endW, eqS_iff, eqI_iff, eqB_iff, eqL_iff, lsOwn_ls, lsOf_ls, lsOf_rl, sqOf_ls, sqOf_rl, sqOf_tp, tpOf_tp, truD_ls, truD_rl, truD_tp, truD_bl, truD_int, truD_non, cPure, cNew, cBagA, sPure, isNon, flatD, tyD,
    cut_from1, cut_init, atI_0, atI_1, atI_2, atI_last, List.map_cons, List.map_nil, List.cons_append, List.nil_append, List.replicate, List.getElem?_cons_zero, List.getElem?_cons_succ, List.getElem?_nil, List.set_cons_zero, List.set_cons_succ, Option.some.injEq, exists_eq_left', exists_eq_left, Option.some_or, Option.none_or, Option.or_some, List.length_cons, List.length_nil, List.length_map, Nat.sub_zero, Nat.reduceSub, Nat.reduceAdd, Nat.reduceLeDiff, List.isEmpty_cons, List.isEmpty_nil, true_and, and_true, if_true, if_false, reduceIte, Bool.not_true, Bool.not_false, Bool.false_eq_true, reduceCtorEq, List.forall_mem_cons, List.forall_mem_nil, implies_true, List.mem_singleton, forall_eq, decide_eq_true_eq, Bool.not_eq_true', decide_eq_false_iff_not, okM0_iff, List.take_zero, gr_str_iff, gr_int_iff, gr_bl_iff, gr_non_iff, gr_lss_iff, gr_ls0_iff, sqOf_1, lsOf_1, lsOwn_1, ixN_30, ixN_31, ixN_32, setIx_iff, setIx_iff', D.cel.injEq, not_true_eq_false, not_false_eq_true, lsOwn_cel hM, lsOf_cel hM]
      unfold pstep at go
      by_cases c1 : s = [46, 46]
      · rw [if_pos c1] at go ⊢
        exact go _ _ (by rw [get_snoc, List.map_dropLast])
      · rw [if_neg c1] at go ⊢
        by_cases c2 : s = [46]
        · rw [if_pos c2] at go
          rw [if_neg (fun z => z c2)]
          exact go _ _ hM
        · rw [if_neg c2] at go
          rw [if_pos c2]
          have := len_le_wt acc
          exact addC_iff (lsOwn_cel hM) rfl ⟨by simp; omega, go _ _ (by rw [get_snoc, List.map_append]; rfl)⟩
theorem sem_p_pushed (ds : List D) (M : MM) (K0 : Kd) (R0 : Kx) (h : sp_p_pushed ds M K0 R0) : rd_p_pushed (endN M.length K0 R0) (startG 4 ds) M := by
  obtain ⟨h, m, rfl, rfl, hw, k⟩ := h
  simp only [rd_p_pushed, dSeq, dNext, dRet, dRetN, dDrop, dSet, dIfS, dBrk, dCnt, dPar, dAug, dSetIx, dFor, dEsc, dChain, dNever, iEn, iEnS, iEnSK, iZp, dUnp, dVar, dC, dOp, dSl, dSlC, dPart, dNo, dTup, dLst, dLstC, dIf, dNot, dAnd, dOr, rNegD, dCall, dM, dM0, dApp, dFrz, dFz, dLc, dFn, dFn0, dFnK, aCons, aNil,
    qTru, qNot, qAnd, qOr, qYes, iLst, iTp, iStr', iR1, iR2, Tgt.d, setAll, wipeG, rAddD, rSubD, rMulD, rModD, rFdivD, rPowD, rOrdD, rIAddD, rIsN', rIxD, rSlD, rLen, rAbs, rMax2, rMin2, rInt1, rOrd, rListOf, rListOfC, rTupleOf, rIsiD, rAllD, rAnyD, rSumD, rHex, mLower, mUpper, mRfind, mIndex,
    mSplit, mPart, mJoin, mStarts, mEnds, startG, endG, endN, endW, eqS_iff, eqI_iff, eqB_iff, eqL_iff, lsOwn_ls, lsOf_ls, lsOf_rl, sqOf_ls, sqOf_rl, sqOf_tp, tpOf_tp, truD_ls, truD_rl, truD_tp, truD_bl, truD_int, truD_non, cPure, cNew, cBagA, sPure, isNon, flatD, tyD,
    cut_from1, cut_init, atI_0, atI_1, atI_2, atI_last, List.map_cons, List.map_nil, List.cons_append, List.nil_append, List.replicate, List.getElem?_cons_zero, List.getElem?_cons_succ, List.getElem?_nil, List.set_cons_zero, List.set_cons_succ, Option.some.injEq, exists_eq_left', exists_eq_left, Option.some_or, Option.none_or, Option.or_some, List.length_cons, List.length_nil, List.length_map, Nat.sub_zero, Nat.reduceSub, Nat.reduceAdd, Nat.reduceLeDiff, List.isEmpty_cons, List.isEmpty_nil, true_and, and_true, if_true, if_false, reduceIte, Bool.not_true, Bool.not_false, Bool.false_eq_true, reduceCtorEq, List.forall_mem_cons, List.forall_mem_nil, implies_true, List.mem_singleton, forall_eq, decide_eq_true_eq, Bool.not_eq_true', decide_eq_false_iff_not, okM0_iff, List.take_zero, gr_str_iff, gr_int_iff, gr_bl_iff, gr_non_iff, gr_lss_iff, gr_ls0_iff, sqOf_1, lsOf_1, lsOwn_1, ixN_30, ixN_31, ixN_32, setIx_iff, setIx_iff', D.cel.injEq, not_true_eq_false, not_false_eq_true]
  refine loop_p_pushed (fun _ => trivial) m h 0 [.ls (h.map .str)] none rfl hw rfl ?_
  intro k' M' o' hM
  simp only [dSeq, dNext, dRet, dRetN, dDrop, dSet, dIfS, dBrk, dCnt, dPar, dAug, dSetIx, dFor, dEsc, dChain, dNever, iEn, iEnS, iEnSK, iZp, dUnp, dVar, dC, dOp, dSl, dSlC, dPart, dNo, dTup, dLst, dLstC, dIf, dNot, dAnd, dOr, rNegD, dCall, dM, dM0, dApp, dFrz, dFz, dLc, dFn, dFn0, dFnK, aCons, aNil,
    qTru, qNot, qAnd, qOr, qYes, iLst, iTp, iStr', iR1, iR2, Tgt.d, setAll, wipeG, rAddD, rSubD, rMulD, rModD, rFdivD, rPowD, rOrdD, rIAddD, rIsN', rIxD, rSlD, rLen, rAbs, rMax2, rMin2, rInt1, rOrd, rListOf, rListOfC, rTupleOf, rIsiD, rAllD, rAnyD, rSumD, rHex, mLower, mUpper, mRfind, mIndex,
    mSplit, mPart, mJoin, mStarts, mEnds, startG, endG, endN, endW, eqS_iff, eqI_iff, eqB_iff, eqL_iff, lsOwn_ls, lsOf_ls, lsOf_rl, sqOf_ls, sqOf_rl, sqOf_tp, tpOf_tp, truD_ls, truD_rl, truD_tp, truD_bl, truD_int, truD_non, cPure, cNew, cBagA, sPure, isNon, flatD, tyD,
    cut_from1, cut_init, atI_0, atI_1, atI_2, atI_last, List.map_cons, List.map_nil, List.cons_append, List.nil_append, List.replicate, List.getElem?_cons_zero, List.getElem?_cons_succ, List.getElem?_nil, List.set_cons_zero, List.set_cons_succ, Option.some.injEq, exists_eq_left', exists_eq_left, Option.some_or, Option.none_or, Option.or_some, List.length_cons, List.length_nil, List.length_map, Nat.sub_zero, Nat.reduceSub, Nat.reduceAdd, Nat.reduceLeDiff, List.isEmpty_cons, List.isEmpty_nil, true_and, and_true, if_true, if_false, reduceIte, Bool.not_true, Bool.not_false, Bool.false_eq_true, reduceCtorEq, List.forall_mem_cons, List.forall_mem_nil, implies_true, List.mem_singleton, forall_eq, decide_eq_true_eq, Bool.not_eq_true', decide_eq_false_iff_not, okM0_iff, List.take_zero, gr_str_iff, gr_int_iff, gr_bl_iff, gr_non_iff, gr_lss_iff, gr_ls0_iff, sqOf_1, lsOf_1, lsOwn_1, ixN_30, ixN_31, ixN_32, setIx_iff, setIx_iff', D.cel.injEq, not_true_eq_false, not_false_eq_true]
  refine ⟨k', _, rfl, Nat.zero_le _, hM, gr_strs _, ?_⟩
  simpa using k
/-! ### stack_of, stack -/
def sp_p_stack_of : DSpec := fun ds M K _ => ∃ p : Tx, ds = [.str p] ∧ M = [] ∧ p.length ≤ 1000 ∧ K (.cel 0) [.ls ((stackOf p).map .str)]
def rd_p_stack_of : DS :=
  (dSeq (dSet 1 (dFn (cPure sp_p_segments) [] (aCons (dVar 0) aNil)))
    (dSeq (dSet 2 (dFn (cNew sp_p_pushed) [] (aCons (dLst aNil) (aCons (dVar 1) aNil))))
    (dRet (dIf (qTru (dOp (rInD false) (dOp rIxD (dVar 1) (rNegD (dC (.int 1)))) (dTup (aCons (dC (.str [46])) (aCons (dC (.str [46, 46])) aNil))))) (dOp rAddDC (dVar 2) (dLst (aCons (dC (.str [])) aNil))) (dVar 2)))))
theorem getLast_segs (p : Tx) : ((segs p).map D.str).getLast? = some (.str (lastS p)) := by
  rw [List.getLast?_map, List.getLast?_eq_some_getLast (show segs p ≠ [] from spC_ne 47 _)]
  rfl
theorem wt_segs (p : Tx) : wt (segs p) ≤ p.length + 1 := by
  have h2 : wt (segs p) = (p.drop 1).length + 1 := wt_spC 47 _
  have h3 : (p.drop 1).length ≤ p.length := by simp
  omega
theorem sem_p_stack_of (ds : List D) (M : MM) (K0 : Kd) (R0 : Kx) (h : sp_p_stack_of ds M K0 R0) : rd_p_stack_of (endN M.length K0 R0) (startG 3 ds) M := by
  obtain ⟨p, rfl, rfl, hp, k⟩ := h
  have hw := wt_segs p
  simp only [rd_p_stack_of, dSeq, dNext, dRet, dRetN, dDrop, dSet, dIfS, dBrk, dCnt, dPar, dAug, dSetIx, dFor, dEsc, dChain, dNever, iEn, iEnS, iEnSK, iZp, dUnp, dVar, dC, dOp, dSl, dSlC, dPart, dNo, dTup, dLst, dLstC, dIf, dNot, dAnd, dOr, rNegD, dCall, dM, dM0, dApp, dFrz, dFz, dLc, dFn, dFn0, dFnK, aCons, aNil,
    qTru, qNot, qAnd, qOr, qYes, iLst, iTp, iStr', iR1, iR2, Tgt.d, setAll, wipeG, rAddD, rSubD, rMulD, rModD, rFdivD, rPowD, rOrdD, rIAddD, rIsN', rIxD, rSlD, rLen, rAbs, rMax2, rMin2, rInt1, rOrd, rListOf, rListOfC, rTupleOf, rIsiD, rAllD, rAnyD, rSumD, rHex, mLower, mUpper, mRfind, mIndex,
    mSplit, mPart, mJoin, mStarts, mEnds, startG, endG, endN, endW, eqS_iff, eqI_iff, eqB_iff, eqL_iff, lsOwn_ls, lsOf_ls, lsOf_rl, sqOf_ls, sqOf_rl, sqOf_tp, tpOf_tp, truD_ls, truD_rl, truD_tp, truD_bl, truD_int, truD_non, cPure, cNew, cBagA, sPure, isNon, flatD, tyD,
    cut_from1, cut_init, atI_0, atI_1, atI_2, atI_last, List.map_cons, List.map_nil, List.cons_append, List.nil_append, List.replicate, List.getElem?_cons_zero, List.getElem?_cons_succ, List.getElem?_nil, List.set_cons_zero, List.set_cons_succ, Option.some.injEq, exists_eq_left', exists_eq_left, Option.some_or, Option.none_or, Option.or_some, List.length_cons, List.length_nil, List.length_map, Nat.sub_zero, Nat.reduceSub, Nat.reduceAdd, Nat.reduceLeDiff, List.isEmpty_cons, List.isEmpty_nil, true_and, and_true, if_true, if_false, reduceIte, Bool.not_true, Bool.not_false, Bool.false_eq_true, reduceCtorEq, List.forall_mem_cons, List.forall_mem_nil, implies_true, List.mem_singleton, forall_eq, decide_eq_true_eq, Bool.not_eq_true', decide_eq_false_iff_not, okM0_iff, List.take_zero, gr_str_iff, gr_int_iff, gr_bl_iff, gr_non_iff, gr_lss_iff, gr_ls0_iff, sqOf_1, lsOf_1, lsOwn_1, ixN_30, ixN_31, ixN_32, setIx_iff, setIx_iff', D.cel.injEq, not_true_eq_false, not_false_eq_true]
  refine ⟨p, rfl, rfl, hp, rfl, gr_ls_strs _, [], segs p, rfl, rfl, ?_, _, rfl, gr_strs _, rfl, ?_⟩
  · have h4 : wt ([] : List Tx) = 0 := rfl
    omega
  · simp only [dSeq, dNext, dRet, dRetN, dDrop, dSet, dIfS, dBrk, dCnt, dPar, dAug, dSetIx, dFor, dEsc, dChain, dNever, iEn, iEnS, iEnSK, iZp, dUnp, dVar, dC, dOp, dSl, dSlC, dPart, dNo, dTup, dLst, dLstC, dIf, dNot, dAnd, dOr, rNegD, dCall, dM, dM0, dApp, dFrz, dFz, dLc, dFn, dFn0, dFnK, aCons, aNil,
    qTru, qNot, qAnd, qOr, qYes, iLst, iTp, iStr', iR1, iR2, Tgt.d, setAll, wipeG, rAddD, rSubD, rMulD, rModD, rFdivD, rPowD, rOrdD, rIAddD, rIsN', rIxD, rSlD, rLen, rAbs, rMax2, rMin2, rInt1, rOrd, rListOf, rListOfC, rTupleOf, rIsiD, rAllD, rAnyD, rSumD, rHex, mLower, mUpper, mRfind, mIndex,
    mSplit, mPart, mJoin, mStarts, mEnds, startG, endG, endN, endW, eqS_iff, eqI_iff, eqB_iff, eqL_iff, lsOwn_ls, lsOf_ls, lsOf_rl, sqOf_ls, sqOf_rl, sqOf_tp, tpOf_tp, truD_ls, truD_rl, truD_tp, truD_bl, truD_int, truD_non, cPure, cNew, cBagA, sPure, isNon, flatD, tyD,
    cut_from1, cut_init, atI_0, atI_1, atI_2, atI_last, List.map_cons, List.map_nil, List.cons_append, List.nil_append, List.replicate, List.getElem?_cons_zero, List.getElem?_cons_succ, List.getElem?_nil, List.set_cons_zero, List.set_cons_succ, Option.some.injEq, exists_eq_left', exists_eq_left, Option.some_or, Option.none_or, Option.or_some, List.length_cons, List.length_nil, List.length_map, Nat.sub_zero, Nat.reduceSub, Nat.reduceAdd, Nat.reduceLeDiff, List.isEmpty_cons, List.isEmpty_nil, true_and, and_true, if_true, if_false, reduceIte, Bool.not_true, Bool.not_false, Bool.false_eq_true, reduceCtorEq, List.forall_mem_cons, List.forall_mem_nil, implies_true, List.mem_singleton, forall_eq, decide_eq_true_eq, Bool.not_eq_true', decide_eq_false_iff_not, okM0_iff, List.take_zero, gr_str_iff, gr_int_iff, gr_bl_iff, gr_non_iff, gr_lss_iff, gr_ls0_iff, sqOf_1, lsOf_1, lsOwn_1, ixN_30, ixN_31, ixN_32, setIx_iff, setIx_iff', D.cel.injEq, not_true_eq_false, not_false_eq_true]
    refine ⟨_, getLast_segs p, ?_⟩
    refine inL_strs (l := [[46], [46, 46]]) rfl ?_ (by simp)
    have h1 : (decide (lastS p ∈ [[46], [46, 46]])) = dotty (lastS p) := by
      unfold dotty
      rw [Bool.eq_iff_iff]
      simp
    simp only [dSeq, dNext, dRet, dRetN, dDrop, dSet, dIfS, dBrk, dCnt, dPar, dAug, dSetIx, dFor, dEsc, dChain, dNever, iEn, iEnS, iEnSK, iZp, dUnp, dVar, dC, dOp, dSl, dSlC, dPart, dNo, dTup, dLst, dLstC, dIf, dNot, dAnd, dOr, rNegD, dCall, dM, dM0, dApp, dFrz, dFz, dLc, dFn, dFn0, dFnK, aCons, aNil,
    qTru, qNot, qAnd, qOr, qYes, iLst, iTp, iStr', iR1, iR2, Tgt.d, setAll, wipeG, rAddD, rSubD, rMulD, rModD, rFdivD, rPowD, rOrdD, rIAddD, rIsN', rIxD, rSlD, rLen, rAbs, rMax2, rMin2, rInt1, rOrd, rListOf, rListOfC, rTupleOf, rIsiD, rAllD, rAnyD, rSumD, rHex, mLower, mUpper, mRfind, mIndex,
    mSplit, mPart, mJoin, mStarts, mEnds, startG, endG, endN, endW, eqS_iff, eqI_iff, eqB_iff, eqL_iff, lsOwn_ls, lsOf_ls, lsOf_rl, sqOf_ls, sqOf_rl, sqOf_tp, tpOf_tp, truD_ls, truD_rl, truD_tp, truD_bl, truD_int, truD_non, cPure, cNew, cBagA, sPure, isNon, flatD, tyD,
    cut_from1, cut_init, atI_0, atI_1, atI_2, atI_last, List.map_cons, List.map_nil, List.cons_append, List.nil_append, List.replicate, List.getElem?_cons_zero, List.getElem?_cons_succ, List.getElem?_nil, List.set_cons_zero, List.set_cons_succ, Option.some.injEq, exists_eq_left', exists_eq_left, Option.some_or, Option.none_or, Option.or_some, List.length_cons, List.length_nil, List.length_map, Nat.sub_zero, Nat.reduceSub, Nat.reduceAdd, Nat.reduceLeDiff, List.isEmpty_cons, List.isEmpty_nil, true_and, and_true, if_true, if_false, reduceIte, Bool.not_true, Bool.not_false, Bool.false_eq_true, reduceCtorEq, List.forall_mem_cons, List.forall_mem_nil, implies_true, List.mem_singleton, forall_eq, decide_eq_true_eq, Bool.not_eq_true', decide_eq_false_iff_not, okM0_iff, List.take_zero, gr_str_iff, gr_int_iff, gr_bl_iff, gr_non_iff, gr_lss_iff, gr_ls0_iff, sqOf_1, lsOf_1, lsOwn_1, ixN_30, ixN_31, ixN_32, setIx_iff, setIx_iff', D.cel.injEq, not_true_eq_false, not_false_eq_true, h1]
    unfold stackOf at k
    split
    · rename_i c
      rw [if_pos c] at k
      have h5 := wt_push (segs p) []
      have h6 := len_le_wt (push [] (segs p))
      have h4 : wt ([] : List Tx) = 0 := rfl
      refine addC_iff (a := (push [] (segs p)).map .str) (b := [.str []]) rfl rfl ⟨by simp; omega, _, _, rfl, Nat.zero_le _, get_snoc, ?_, ?_⟩
      · have := gr_strs (push [] (segs p) ++ [[]])
        rw [List.map_append] at this
        exact this
      · rw [List.map_append] at k
        exact k
    · rename_i c
      rw [if_neg c] at k
      exact ⟨_, _, rfl, Nat.zero_le _, rfl, gr_strs _, k⟩
def sp_p_written : DSpec := fun ds M K _ => ∃ (h : List Tx) (au : Bool), ds = [.ls (h.map .str), .bl au] ∧ M = [] ∧ wt h ≤ 10000 ∧ K (.str (written h au)) []
def rd_p_written : DS :=
  (dSeq (dSet 2 (dOp rAddD (dC (.str [47])) (dM mJoin (dC (.str [47])) (aCons (dVar 0) aNil))))
    (dRet (dIf (qOr (qTru (dVar 1)) (qNot (qTru (dM mStarts (dVar 2) (aCons (dC (.str [47, 47])) aNil))))) (dVar 2) (dOp rAddD (dC (.str [47, 46])) (dVar 2)))))
theorem sem_p_written (ds : List D) (M : MM) (K0 : Kd) (R0 : Kx) (h : sp_p_written ds M K0 R0) : rd_p_written (endG M.length K0 R0) (startG 3 ds) M := by
  obtain ⟨h, au, rfl, rfl, hw, k⟩ := h
  have hj := jn_wt h
  have hw2 : (h.map List.length).sum + h.length = wt h := rfl
  simp only [rd_p_written, dSeq, dNext, dRet, dRetN, dDrop, dSet, dIfS, dBrk, dCnt, dPar, dAug, dSetIx, dFor, dEsc, dChain, dNever, iEn, iEnS, iEnSK, iZp, dUnp, dVar, dC, dOp, dSl, dSlC, dPart, dNo, dTup, dLst, dLstC, dIf, dNot, dAnd, dOr, rNegD, dCall, dM, dM0, dApp, dFrz, dFz, dLc, dFn, dFn0, dFnK, aCons, aNil,
    qTru, qNot, qAnd, qOr, qYes, iLst, iTp, iStr', iR1, iR2, Tgt.d, setAll, wipeG, rAddD, rSubD, rMulD, rModD, rFdivD, rPowD, rOrdD, rIAddD, rIsN', rIxD, rSlD, rLen, rAbs, rMax2, rMin2, rInt1, rOrd, rListOf, rListOfC, rTupleOf, rIsiD, rAllD, rAnyD, rSumD, rHex, mLower, mUpper, mRfind, mIndex,
    mSplit, mPart, mJoin, mStarts, mEnds, startG, endG, endN, endW, eqS_iff, eqI_iff, eqB_iff, eqL_iff, lsOwn_ls, lsOf_ls, lsOf_rl, sqOf_ls, sqOf_rl, sqOf_tp, tpOf_tp, truD_ls, truD_rl, truD_tp, truD_bl, truD_int, truD_non, cPure, cNew, cBagA, sPure, isNon, flatD, tyD,
    cut_from1, cut_init, atI_0, atI_1, atI_2, atI_last, List.map_cons, List.map_nil, List.cons_append, List.nil_append, List.replicate, List.getElem?_cons_zero, List.getElem?_cons_succ, List.getElem?_nil, List.set_cons_zero, List.set_cons_succ, Option.some.injEq, exists_eq_left', exists_eq_left, Option.some_or, Option.none_or, Option.or_some, List.length_cons, List.length_nil, List.length_map, Nat.sub_zero, Nat.reduceSub, Nat.reduceAdd, Nat.reduceLeDiff, List.isEmpty_cons, List.isEmpty_nil, true_and, and_true, if_true, if_false, reduceIte, Bool.not_true, Bool.not_false, Bool.false_eq_true, reduceCtorEq, List.forall_mem_cons, List.forall_mem_nil, implies_true, List.mem_singleton, forall_eq, decide_eq_true_eq, Bool.not_eq_true', decide_eq_false_iff_not, okM0_iff, List.take_zero, gr_str_iff, gr_int_iff, gr_bl_iff, gr_non_iff, gr_lss_iff, gr_ls0_iff, sqOf_1, lsOf_1, lsOwn_1, ixN_30, ixN_31, ixN_32, setIx_iff, setIx_iff', D.cel.injEq, not_true_eq_false, not_false_eq_true]
  refine ⟨h, rfl, ?_, by omega, ?_⟩
  · show (h.map List.length).sum + h.length * 1 ≤ 16777216
    omega
  unfold written at k
  cases au with
  | true => exact k
  | false =>
    simp only [dSeq, dNext, dRet, dRetN, dDrop, dSet, dIfS, dBrk, dCnt, dPar, dAug, dSetIx, dFor, dEsc, dChain, dNever, iEn, iEnS, iEnSK, iZp, dUnp, dVar, dC, dOp, dSl, dSlC, dPart, dNo, dTup, dLst, dLstC, dIf, dNot, dAnd, dOr, rNegD, dCall, dM, dM0, dApp, dFrz, dFz, dLc, dFn, dFn0, dFnK, aCons, aNil,
    qTru, qNot, qAnd, qOr, qYes, iLst, iTp, iStr', iR1, iR2, Tgt.d, setAll, wipeG, rAddD, rSubD, rMulD, rModD, rFdivD, rPowD, rOrdD, rIAddD, rIsN', rIxD, rSlD, rLen, rAbs, rMax2, rMin2, rInt1, rOrd, rListOf, rListOfC, rTupleOf, rIsiD, rAllD, rAnyD, rSumD, rHex, mLower, mUpper, mRfind, mIndex,
    mSplit, mPart, mJoin, mStarts, mEnds, startG, endG, endN, endW, eqS_iff, eqI_iff, eqB_iff, eqL_iff, lsOwn_ls, lsOf_ls, lsOf_rl, sqOf_ls, sqOf_rl, sqOf_tp, tpOf_tp, truD_ls, truD_rl, truD_tp, truD_bl, truD_int, truD_non, cPure, cNew, cBagA, sPure, isNon, flatD, tyD,
    cut_from1, cut_init, atI_0, atI_1, atI_2, atI_last, List.map_cons, List.map_nil, List.cons_append, List.nil_append, List.replicate, List.getElem?_cons_zero, List.getElem?_cons_succ, List.getElem?_nil, List.set_cons_zero, List.set_cons_succ, Option.some.injEq, exists_eq_left', exists_eq_left, Option.some_or, Option.none_or, Option.or_some, List.length_cons, List.length_nil, List.length_map, Nat.sub_zero, Nat.reduceSub, Nat.reduceAdd, Nat.reduceLeDiff, List.isEmpty_cons, List.isEmpty_nil, true_and, and_true, if_true, if_false, reduceIte, Bool.not_true, Bool.not_false, Bool.false_eq_true, reduceCtorEq, List.forall_mem_cons, List.forall_mem_nil, implies_true, List.mem_singleton, forall_eq, decide_eq_true_eq, Bool.not_eq_true', decide_eq_false_iff_not, okM0_iff, List.take_zero, gr_str_iff, gr_int_iff, gr_bl_iff, gr_non_iff, gr_lss_iff, gr_ls0_iff, sqOf_1, lsOf_1, lsOwn_1, ixN_30, ixN_31, ixN_32, setIx_iff, setIx_iff', D.cel.injEq, not_true_eq_false, not_false_eq_true]
    cases c : [47, 47].isPrefixOf (47 :: jn [47] h) with
    | true =>
      rw [c] at k
      exact ⟨by omega, k⟩
    | false =>
      rw [c] at k
      exact k
def sp_p_cleaned_path : DSpec := fun ds M K _ => ∃ (p : Tx) (au : Bool), ds = [.str p, .bl au] ∧ M = [] ∧ p.length ≤ 1000 ∧ K (.str (cleanedP p au)) []
def rd_p_cleaned_path : DS :=
  (dRet (dIf (qTru (dM mStarts (dVar 0) (aCons (dC (.str [47])) aNil))) (dFn (cPure sp_p_written) [] (aCons (dFn (cPure (sPure sp_p_stack_of)) [] (aCons (dVar 0) aNil)) (aCons (dVar 1) aNil))) (dVar 0)))
theorem sem_p_cleaned_path (ds : List D) (M : MM) (K0 : Kd) (R0 : Kx) (h : sp_p_cleaned_path ds M K0 R0) : rd_p_cleaned_path (endG M.length K0 R0) (startG 2 ds) M := by
  obtain ⟨p, au, rfl, rfl, hp, k⟩ := h
  have hw := wt_stackOf p
  simp only [rd_p_cleaned_path, dSeq, dNext, dRet, dRetN, dDrop, dSet, dIfS, dBrk, dCnt, dPar, dAug, dSetIx, dFor, dEsc, dChain, dNever, iEn, iEnS, iEnSK, iZp, dUnp, dVar, dC, dOp, dSl, dSlC, dPart, dNo, dTup, dLst, dLstC, dIf, dNot, dAnd, dOr, rNegD, dCall, dM, dM0, dApp, dFrz, dFz, dLc, dFn, dFn0, dFnK, aCons, aNil,
    qTru, qNot, qAnd, qOr, qYes, iLst, iTp, iStr', iR1, iR2, Tgt.d, setAll, wipeG, rAddD, rSubD, rMulD, rModD, rFdivD, rPowD, rOrdD, rIAddD, rIsN', rIxD, rSlD, rLen, rAbs, rMax2, rMin2, rInt1, rOrd, rListOf, rListOfC, rTupleOf, rIsiD, rAllD, rAnyD, rSumD, rHex, mLower, mUpper, mRfind, mIndex,
    mSplit, mPart, mJoin, mStarts, mEnds, startG, endG, endN, endW, eqS_iff, eqI_iff, eqB_iff, eqL_iff, lsOwn_ls, lsOf_ls, lsOf_rl, sqOf_ls, sqOf_rl, sqOf_tp, tpOf_tp, truD_ls, truD_rl, truD_tp, truD_bl, truD_int, truD_non, cPure, cNew, cBagA, sPure, isNon, flatD, tyD,
    cut_from1, cut_init, atI_0, atI_1, atI_2, atI_last, List.map_cons, List.map_nil, List.cons_append, List.nil_append, List.replicate, List.getElem?_cons_zero, List.getElem?_cons_succ, List.getElem?_nil, List.set_cons_zero, List.set_cons_succ, Option.some.injEq, exists_eq_left', exists_eq_left, Option.some_or, Option.none_or, Option.or_some, List.length_cons, List.length_nil, List.length_map, Nat.sub_zero, Nat.reduceSub, Nat.reduceAdd, Nat.reduceLeDiff, List.isEmpty_cons, List.isEmpty_nil, true_and, and_true, if_true, if_false, reduceIte, Bool.not_true, Bool.not_false, Bool.false_eq_true, reduceCtorEq, List.forall_mem_cons, List.forall_mem_nil, implies_true, List.mem_singleton, forall_eq, decide_eq_true_eq, Bool.not_eq_true', decide_eq_false_iff_not, okM0_iff, List.take_zero, gr_str_iff, gr_int_iff, gr_bl_iff, gr_non_iff, gr_lss_iff, gr_ls0_iff, sqOf_1, lsOf_1, lsOwn_1, ixN_30, ixN_31, ixN_32, setIx_iff, setIx_iff', D.cel.injEq, not_true_eq_false, not_false_eq_true]
  unfold cleanedP at k
  cases c : [47].isPrefixOf p with
  | true =>
    rw [c] at k
    refine ⟨p, rfl, rfl, hp, _, rfl, rfl, gr_strs _, gr_ls_strs _, stackOf p, au, rfl, rfl, by omega, rfl, trivial, k⟩
  | false =>
    rw [c] at k
    exact k
end L3

namespace L3
open PySem PySem.Spec PyProof.Rows L2 Evl
open Classical

/-! ### the law's stack -/
theorem cut_less {α : Type} (l : List α) : cut l none (some (if (l.length : Int) - 1 > 0 then (l.length : Int) - 1 else 0)) = l.dropLast := by
  have e : (if (l.length : Int) - 1 > 0 then (l.length : Int) - 1 else 0) = ((l.length - 1 : Nat) : Int) := by
    split <;> omega
  rw [e, cut_to, List.dropLast_eq_take]
def lawStack (p : Tx) : List Tx := stackOf p
def sp_law_stack : DSpec := fun ds M K _ => ∃ p : Tx, ds = [.str p] ∧ M = [] ∧ p.length ≤ 1000 ∧ K (.ls ((stackOf p).map .str)) []
def lb0_law_stack : DS :=
  (dIfS (qTru (dOp (rEqD' false) (dVar 3) (dC (.str [46, 46]))))
    (dSet 1 (dSlC (dVar 1) dNo (dPart (dCall rMax2 (aCons (dC (.int 0)) (aCons (dOp rSubD (dCall rLen (aCons (dVar 1) aNil)) (dC (.int 1))) aNil))))))
    (dIfS (qTru (dOp (rEqD' true) (dVar 3) (dC (.str [46]))))
    (dDrop (dApp (dVar 1) (dVar 3)))
    dNext))
def rd_law_stack : DS :=
  (dSeq (dPar 1 2 (aCons (dLstC aNil) (aCons (dM mSplit (dSl (dVar 0) (dPart (dC (.int 1))) dNo) (aCons (dC (.str [47])) aNil)) aNil)))
    (dSeq (dFor (iLst (dVar 2)) (Tgt.nm 3) lb0_law_stack)
    (dRet (dOp rAddD (dVar 1) (dOp rMulD (dLst (aCons (dC (.str [])) aNil)) (dCall rInt1 (aCons (dOp (rInD false) (dOp rIxD (dVar 2) (rNegD (dC (.int 1)))) (dLst (aCons (dC (.str [46])) (aCons (dC (.str [46, 46])) aNil)))) aNil)))))))
theorem loop_law_stack {chk : MM → Prop} (hc : ∀ M, chk M) {E : DEnds} {h : D} {rows res : List Tx} (m : List Tx) (acc : List Tx) (k : Nat) (M : MM) (o : Option D) (hM : M[k]? = some (.ls (acc.map .str))) (hw : wt acc + wt m ≤ 10000) (hr : push acc m = res)
    (q : ∀ k' M' o', M'[k']? = some (.ls (res.map .str)) → E.nx [some h, some (.cel k'), some (.ls (rows.map .str)), o'] M') :
    forD chk (Tgt.nm 3) lb0_law_stack E (m.map .str) [some h, some (.cel k), some (.ls (rows.map .str)), o] M := by
  refine for_ind (P := fun l Γ M => ∃ m acc k o, l = m.map D.str ∧ Γ = [some h, some (.cel k), some (.ls (rows.map .str)), o] ∧ M[k]? = some (.ls (acc.map .str)) ∧ wt acc + wt m ≤ 10000 ∧ push acc m = res) ?_ ?_ _ _ _ ⟨m, acc, k, o, rfl, rfl, hM, hw, hr⟩
  · rintro Γ M ⟨m, acc, k, o, e, rfl, hM, hw, hr⟩
    cases m with
    | nil => cases hr; exact ⟨hc _, q k M o hM⟩
    | cons => cases e
  · rintro d r Γ M N hN ⟨m, acc, k, o, e, rfl, hM, hw, hr⟩
    cases m with
    | nil => cases e
    | cons s m =>
      cases e
      have e : wt (s :: m) = wt [s] + wt m := wt_app [s] m
      have h2 := wt_pstep acc s
      have hr : push (pstep acc s) m = res := hr
      have go : ∀ k M, M[k]? = some (.ls ((pstep acc s).map .str)) → N [some h, some (.cel k), some (.ls (rows.map .str)), some (.str s)] M := fun k M hM => hN _ _ ⟨m, _, k, _, rfl, rfl, hM, by omega, hr⟩
      refine ⟨hc _, ?_⟩
      simp only [lb0_law_stack, dSeq, dNext, dRet, dRetN, dDrop, dSet, dIfS, dBrk, dCnt, dPar, dAug, dSetIx, dFor, dEsc, dChain, dNever, iEn, iEnS, iEnSK, iZp, dUnp, dVar, dC, dOp, dSl, dSlC, dPart, dNo, dTup, dLst, dLstC, dIf, dNot, dAnd, dOr, rNegD, dCall, dM, dM0, dApp, dFrz, dFz, dLc, dFn, dFn0, dFnK, aCons, aNil,
    qTru, qNot, qAnd, qOr, qYes, iLst, iTp, iStr', iR1, iR2, Tgt.d, setAll, wipeG, rAddD, rSubD, rMulD, rModD, rFdivD, rPowD, rOrdD, rIAddD, rIsN', rIxD, rSlD, rLen, rAbs, rMax2, rMin2, rInt1, rOrd, rListOf, rListOfC, rTupleOf, rIsiD, rAllD, rAnyD, rSumD, rHex, mLower, mUpper, mRfind, mIndex,
    mSplit, mPart, mJoin, mStarts, mEnds, startG, endG, endN, endW, eqS_iff, eqI_iff, eqB_iff, eqL_iff, lsOwn_ls, lsOf_ls, lsOf_rl, sqOf_ls, sqOf_rl, sqOf_tp, tpOf_tp, truD_ls, truD_rl, truD_tp, truD_bl, truD_int, truD_non, cPure, cNew, cBagA, sPure, isNon, flatD, tyD,
    cut_from1, cut_init, atI_0, atI_1, atI_2, atI_last, List.map_cons, List.map_nil, List.cons_append, List.nil_append, List.replicate, List.getElem?_cons_zero, List.getElem?_cons_succ, List.getElem?_nil, List.set_cons_zero, List.set_cons_succ, Option.some.injEq, exists_eq_left', exists_eq_left, Option.some_or, Option.none_or, Option.or_some, List.length_cons, List.length_nil, List.length_map, Nat.sub_zero, Nat.reduceSub, Nat.reduceAdd, Nat.reduceLeDiff, List.isEmpty_cons, List.isEmpty_nil, true_and, and_true, if_true, if_false, reduceIte, Bool.not_true, Bool.not_false, Bool.false_eq_true, reduceCtorEq, List.forall_mem_cons, List.forall_mem_nil, implies_true, List.mem_singleton, forall_eq, decide_eq_true_eq, Bool.not_eq_true', decide_eq_false_iff_not, okM0_iff, List.take_zero, gr_str_iff, gr_int_iff, gr_bl_iff, gr_non_iff, gr_lss_iff, gr_ls0_iff, sqOf_1, lsOf_1, lsOwn_1, ixN_30, ixN_31, ixN_32, setIx_iff, setIx_iff', D.cel.injEq, not_true_eq_false, not_false_eq_true, lsOwn_cel hM, lsOf_cel hM, sqOf_cel hM]
      unfold pstep at go
      by_cases c1 : s = [46, 46]
      · rw [if_pos c1] at go ⊢
        refine go _ _ ?_
        rw [get_snoc, List.map_dropLast, ← List.length_map (f := D.str) (as := acc), cut_less]
      · rw [if_neg c1] at go ⊢
        by_cases c2 : s = [46]
        · rw [if_pos c2] at go
          rw [if_neg (fun z => z c2)]
          exact go _ _ hM
        · rw [if_neg c2] at go
          rw [if_pos c2]
          have := len_le_wt acc
          refine ⟨⟨_, hM⟩, _, hM, by simp; omega, go _ _ ?_⟩
          rw [get_set hM, List.map_append]
          rfl
theorem sem_law_stack (ds : List D) (M : MM) (K0 : Kd) (R0 : Kx) (h : sp_law_stack ds M K0 R0) : rd_law_stack (endG M.length K0 R0) (startG 4 ds) M := by
  obtain ⟨p, rfl, rfl, hp, k⟩ := h
  have hw := wt_segs p
  unfold rd_law_stack
  refine seq_g fun N hN => ?_
  simp only [dSeq, dNext, dRet, dRetN, dDrop, dSet, dIfS, dBrk, dCnt, dPar, dAug, dSetIx, dFor, dEsc, dChain, dNever, iEn, iEnS, iEnSK, iZp, dUnp, dVar, dC, dOp, dSl, dSlC, dPart, dNo, dTup, dLst, dLstC, dIf, dNot, dAnd, dOr, rNegD, dCall, dM, dM0, dApp, dFrz, dFz, dLc, dFn, dFn0, dFnK, aCons, aNil,
    qTru, qNot, qAnd, qOr, qYes, iLst, iTp, iStr', iR1, iR2, Tgt.d, setAll, wipeG, rAddD, rSubD, rMulD, rModD, rFdivD, rPowD, rOrdD, rIAddD, rIsN', rIxD, rSlD, rLen, rAbs, rMax2, rMin2, rInt1, rOrd, rListOf, rListOfC, rTupleOf, rIsiD, rAllD, rAnyD, rSumD, rHex, mLower, mUpper, mRfind, mIndex,
    mSplit, mPart, mJoin, mStarts, mEnds, startG, endG, endN, endW, eqS_iff, eqI_iff, eqB_iff, eqL_iff, lsOwn_ls, lsOf_ls, lsOf_rl, sqOf_ls, sqOf_rl, sqOf_tp, tpOf_tp, truD_ls, truD_rl, truD_tp, truD_bl, truD_int, truD_non, cPure, cNew, cBagA, sPure, isNon, flatD, tyD,
    cut_from1, cut_init, atI_0, atI_1, atI_2, atI_last, List.map_cons, List.map_nil, List.cons_append, List.nil_append, List.replicate, List.getElem?_cons_zero, List.getElem?_cons_succ, List.getElem?_nil, List.set_cons_zero, List.set_cons_succ, Option.some.injEq, exists_eq_left', exists_eq_left, Option.some_or, Option.none_or, Option.or_some, List.length_cons, List.length_nil, List.length_map, Nat.sub_zero, Nat.reduceSub, Nat.reduceAdd, Nat.reduceLeDiff, List.isEmpty_cons, List.isEmpty_nil, true_and, and_true, if_true, if_false, reduceIte, Bool.not_true, Bool.not_false, Bool.false_eq_true, reduceCtorEq, List.forall_mem_cons, List.forall_mem_nil, implies_true, List.mem_singleton, forall_eq, decide_eq_true_eq, Bool.not_eq_true', decide_eq_false_iff_not, okM0_iff, List.take_zero, gr_str_iff, gr_int_iff, gr_bl_iff, gr_non_iff, gr_lss_iff, gr_ls0_iff, sqOf_1, lsOf_1, lsOwn_1, ixN_30, ixN_31, ixN_32, setIx_iff, setIx_iff', D.cel.injEq, not_true_eq_false, not_false_eq_true]
  refine ⟨by omega, by simp; omega, ?_⟩
  rw [hN]
  refine seq_g fun N hN => ?_
  simp only [dSeq, dNext, dRet, dRetN, dDrop, dSet, dIfS, dBrk, dCnt, dPar, dAug, dSetIx, dFor, dEsc, dChain, dNever, iEn, iEnS, iEnSK, iZp, dUnp, dVar, dC, dOp, dSl, dSlC, dPart, dNo, dTup, dLst, dLstC, dIf, dNot, dAnd, dOr, rNegD, dCall, dM, dM0, dApp, dFrz, dFz, dLc, dFn, dFn0, dFnK, aCons, aNil,
    qTru, qNot, qAnd, qOr, qYes, iLst, iTp, iStr', iR1, iR2, Tgt.d, setAll, wipeG, rAddD, rSubD, rMulD, rModD, rFdivD, rPowD, rOrdD, rIAddD, rIsN', rIxD, rSlD, rLen, rAbs, rMax2, rMin2, rInt1, rOrd, rListOf, rListOfC, rTupleOf, rIsiD, rAllD, rAnyD, rSumD, rHex, mLower, mUpper, mRfind, mIndex,
    mSplit, mPart, mJoin, mStarts, mEnds, startG, endG, endN, endW, eqS_iff, eqI_iff, eqB_iff, eqL_iff, lsOwn_ls, lsOf_ls, lsOf_rl, sqOf_ls, sqOf_rl, sqOf_tp, tpOf_tp, truD_ls, truD_rl, truD_tp, truD_bl, truD_int, truD_non, cPure, cNew, cBagA, sPure, isNon, flatD, tyD,
    cut_from1, cut_init, atI_0, atI_1, atI_2, atI_last, List.map_cons, List.map_nil, List.cons_append, List.nil_append, List.replicate, List.getElem?_cons_zero, List.getElem?_cons_succ, List.getElem?_nil, List.set_cons_zero, List.set_cons_succ, Option.some.injEq, exists_eq_left', exists_eq_left, Option.some_or, Option.none_or, Option.or_some, List.length_cons, List.length_nil, List.length_map, Nat.sub_zero, Nat.reduceSub, Nat.reduceAdd, Nat.reduceLeDiff, List.isEmpty_cons, List.isEmpty_nil, true_and, and_true, if_true, if_false, reduceIte, Bool.not_true, Bool.not_false, Bool.false_eq_true, reduceCtorEq, List.forall_mem_cons, List.forall_mem_nil, implies_true, List.mem_singleton, forall_eq, decide_eq_true_eq, Bool.not_eq_true', decide_eq_false_iff_not, okM0_iff, List.take_zero, gr_str_iff, gr_int_iff, gr_bl_iff, gr_non_iff, gr_lss_iff, gr_ls0_iff, sqOf_1, lsOf_1, lsOwn_1, ixN_30, ixN_31, ixN_32, setIx_iff, setIx_iff', D.cel.injEq, not_true_eq_false, not_false_eq_true]
  have h4 : wt ([] : List Tx) = 0 := rfl
  refine loop_law_stack (rows := segs p) (fun _ => trivial) (segs p) [] 0 [.ls []] none rfl (by omega) rfl ?_
  intro k' M' o' hM
  rw [hN]
  simp only [dSeq, dNext, dRet, dRetN, dDrop, dSet, dIfS, dBrk, dCnt, dPar, dAug, dSetIx, dFor, dEsc, dChain, dNever, iEn, iEnS, iEnSK, iZp, dUnp, dVar, dC, dOp, dSl, dSlC, dPart, dNo, dTup, dLst, dLstC, dIf, dNot, dAnd, dOr, rNegD, dCall, dM, dM0, dApp, dFrz, dFz, dLc, dFn, dFn0, dFnK, aCons, aNil,
    qTru, qNot, qAnd, qOr, qYes, iLst, iTp, iStr', iR1, iR2, Tgt.d, setAll, wipeG, rAddD, rSubD, rMulD, rModD, rFdivD, rPowD, rOrdD, rIAddD, rIsN', rIxD, rSlD, rLen, rAbs, rMax2, rMin2, rInt1, rOrd, rListOf, rListOfC, rTupleOf, rIsiD, rAllD, rAnyD, rSumD, rHex, mLower, mUpper, mRfind, mIndex,
    mSplit, mPart, mJoin, mStarts, mEnds, startG, endG, endN, endW, eqS_iff, eqI_iff, eqB_iff, eqL_iff, lsOwn_ls, lsOf_ls, lsOf_rl, sqOf_ls, sqOf_rl, sqOf_tp, tpOf_tp, truD_ls, truD_rl, truD_tp, truD_bl, truD_int, truD_non, cPure, cNew, cBagA, sPure, isNon, flatD, tyD,
    cut_from1, cut_init, atI_0, atI_1, atI_2, atI_last, List.map_cons, List.map_nil, List.cons_append, List.nil_append, List.replicate, List.getElem?_cons_zero, List.getElem?_cons_succ, List.getElem?_nil, List.set_cons_zero, List.set_cons_succ, Option.some.injEq, exists_eq_left', exists_eq_left, Option.some_or, Option.none_or, Option.or_some, List.length_cons, List.length_nil, List.length_map, Nat.sub_zero, Nat.reduceSub, Nat.reduceAdd, Nat.reduceLeDiff, List.isEmpty_cons, List.isEmpty_nil, true_and, and_true, if_true, if_false, reduceIte, Bool.not_true, Bool.not_false, Bool.false_eq_true, reduceCtorEq, List.forall_mem_cons, List.forall_mem_nil, implies_true, List.mem_singleton, forall_eq, decide_eq_true_eq, Bool.not_eq_true', decide_eq_false_iff_not, okM0_iff, List.take_zero, gr_str_iff, gr_int_iff, gr_bl_iff, gr_non_iff, gr_lss_iff, gr_ls0_iff, sqOf_1, lsOf_1, lsOwn_1, ixN_30, ixN_31, ixN_32, setIx_iff, setIx_iff', D.cel.injEq, not_true_eq_false, not_false_eq_true, lsOwn_cel hM, lsOf_cel hM, sqOf_cel hM]
  refine ⟨_, getLast_segs p, ?_⟩
  refine inL_strs (l := [[46], [46, 46]]) rfl ?_ (by simp)
  have h1 : (decide (lastS p ∈ [[46], [46, 46]])) = dotty (lastS p) := by
    unfold dotty
    rw [Bool.eq_iff_iff]
    simp
  have h5 := wt_push (segs p) []
  have h6 := len_le_wt (push [] (segs p))
  simp only [dSeq, dNext, dRet, dRetN, dDrop, dSet, dIfS, dBrk, dCnt, dPar, dAug, dSetIx, dFor, dEsc, dChain, dNever, iEn, iEnS, iEnSK, iZp, dUnp, dVar, dC, dOp, dSl, dSlC, dPart, dNo, dTup, dLst, dLstC, dIf, dNot, dAnd, dOr, rNegD, dCall, dM, dM0, dApp, dFrz, dFz, dLc, dFn, dFn0, dFnK, aCons, aNil,
    qTru, qNot, qAnd, qOr, qYes, iLst, iTp, iStr', iR1, iR2, Tgt.d, setAll, wipeG, rAddD, rSubD, rMulD, rModD, rFdivD, rPowD, rOrdD, rIAddD, rIsN', rIxD, rSlD, rLen, rAbs, rMax2, rMin2, rInt1, rOrd, rListOf, rListOfC, rTupleOf, rIsiD, rAllD, rAnyD, rSumD, rHex, mLower, mUpper, mRfind, mIndex,
    mSplit, mPart, mJoin, mStarts, mEnds, startG, endG, endN, endW, eqS_iff, eqI_iff, eqB_iff, eqL_iff, lsOwn_ls, lsOf_ls, lsOf_rl, sqOf_ls, sqOf_rl, sqOf_tp, tpOf_tp, truD_ls, truD_rl, truD_tp, truD_bl, truD_int, truD_non, cPure, cNew, cBagA, sPure, isNon, flatD, tyD,
    cut_from1, cut_init, atI_0, atI_1, atI_2, atI_last, List.map_cons, List.map_nil, List.cons_append, List.nil_append, List.replicate, List.getElem?_cons_zero, List.getElem?_cons_succ, List.getElem?_nil, List.set_cons_zero, List.set_cons_succ, Option.some.injEq, exists_eq_left', exists_eq_left, Option.some_or, Option.none_or, Option.or_some, List.length_cons, List.length_nil, List.length_map, Nat.sub_zero, Nat.reduceSub, Nat.reduceAdd, Nat.reduceLeDiff, List.isEmpty_cons, List.isEmpty_nil, true_and, and_true, if_true, if_false, reduceIte, Bool.not_true, Bool.not_false, Bool.false_eq_true, reduceCtorEq, List.forall_mem_cons, List.forall_mem_nil, implies_true, List.mem_singleton, forall_eq, decide_eq_true_eq, Bool.not_eq_true', decide_eq_false_iff_not, okM0_iff, List.take_zero, gr_str_iff, gr_int_iff, gr_bl_iff, gr_non_iff, gr_lss_iff, gr_ls0_iff, sqOf_1, lsOf_1, lsOwn_1, ixN_30, ixN_31, ixN_32, setIx_iff, setIx_iff', D.cel.injEq, not_true_eq_false, not_false_eq_true, h1]
  unfold stackOf at k
  rw [lsOwn_cel hM]
  cases c : dotty (lastS p) with
  | true =>
    rw [c] at k
    refine ⟨by decide, by decide, by decide, ?_⟩
    have e : (push [] (segs p)).map D.str ++ [D.str []] = (push [] (segs p) ++ [[]]).map .str := by rw [List.map_append]; rfl
    show ((push [] (segs p)).map D.str).length + 1 ≤ _ ∧ Gr (D.ls ((push [] (segs p)).map D.str ++ [D.str []])) ∧ K0 (D.ls ((push [] (segs p)).map D.str ++ [D.str []])) []
    rw [e]
    exact ⟨by simp; omega, gr_ls_strs _, k⟩
  | false =>
    rw [c] at k
    refine ⟨by decide, by decide, by decide, ?_⟩
    show ((push [] (segs p)).map D.str).length + 0 ≤ _ ∧ Gr (D.ls ((push [] (segs p)).map D.str ++ [])) ∧ K0 (D.ls ((push [] (segs p)).map D.str ++ [])) []
    rw [List.append_nil]
    exact ⟨by simp; omega, gr_ls_strs _, k⟩
/-! ### the law's cleaned -/
theorem pre1_take (c : Nat) (l : Tx) : [c].isPrefixOf l = decide (l.take 1 = [c]) := by
  cases l with
  | nil => rfl
  | cons a r =>
    by_cases h : a = c
    · subst h; simp [List.isPrefixOf]
    · have h2 : c ≠ a := fun z => h z.symm
      simp [List.isPrefixOf, h, h2]
theorem pre2_take (c d : Nat) (l : Tx) : [c, d].isPrefixOf l = decide (l.take 2 = [c, d]) := by
  match l with
  | [] => rfl
  | [a] => simp [List.isPrefixOf]
  | a :: b :: r =>
    by_cases h : a = c
    · subst h
      by_cases h' : b = d
      · subst h'; simp [List.isPrefixOf]
      · have h2 : d ≠ b := fun z => h' z.symm
        simp [List.isPrefixOf, h', h2]
    · have h2 : c ≠ a := fun z => h z.symm
      simp [List.isPrefixOf, h, h2]
def sp_law_cleaned : DSpec := fun ds M K _ => ∃ (p : Tx) (b : Bool), ds = [.str p, .bl b] ∧ M = [] ∧ p.length ≤ 1000 ∧ K (.str (cleanedP p b)) []
def rd_law_cleaned : DS :=
  (dSeq (dIfS (qTru (dOp (rEqD' true) (dSl (dVar 0) dNo (dPart (dC (.int 1)))) (dC (.str [47]))))
    (dRet (dVar 0))
    dNext)
    (dSeq (dSet 2 (dOp rAddD (dC (.str [47])) (dM mJoin (dC (.str [47])) (aCons (dFn (cPure sp_law_stack) [] (aCons (dVar 0) aNil)) aNil))))
    (dRet (dIf (qAnd (qNot (qTru (dVar 1))) (qTru (dOp (rEqD' false) (dSl (dVar 2) dNo (dPart (dC (.int 2)))) (dC (.str [47, 47]))))) (dOp rAddD (dC (.str [47, 46])) (dVar 2)) (dVar 2)))))
theorem cut_to1 {α : Type} (l : List α) : cut l none (some 1) = l.take 1 := cut_to l 1
theorem cut_to2 {α : Type} (l : List α) : cut l none (some 2) = l.take 2 := cut_to l 2
theorem sem_law_cleaned (ds : List D) (M : MM) (K0 : Kd) (R0 : Kx) (h : sp_law_cleaned ds M K0 R0) : rd_law_cleaned (endG M.length K0 R0) (startG 3 ds) M := by
  obtain ⟨p, b, rfl, rfl, hp, k⟩ := h
  have hw := wt_stackOf p
  have hj := jn_wt (stackOf p)
  have hw2 : ((stackOf p).map List.length).sum + (stackOf p).length = wt (stackOf p) := rfl
  unfold rd_law_cleaned
  refine seq_g fun N hN => ?_
  simp only [dSeq, dNext, dRet, dRetN, dDrop, dSet, dIfS, dBrk, dCnt, dPar, dAug, dSetIx, dFor, dEsc, dChain, dNever, iEn, iEnS, iEnSK, iZp, dUnp, dVar, dC, dOp, dSl, dSlC, dPart, dNo, dTup, dLst, dLstC, dIf, dNot, dAnd, dOr, rNegD, dCall, dM, dM0, dApp, dFrz, dFz, dLc, dFn, dFn0, dFnK, aCons, aNil,
    qTru, qNot, qAnd, qOr, qYes, iLst, iTp, iStr', iR1, iR2, Tgt.d, setAll, wipeG, rAddD, rSubD, rMulD, rModD, rFdivD, rPowD, rOrdD, rIAddD, rIsN', rIxD, rSlD, rLen, rAbs, rMax2, rMin2, rInt1, rOrd, rListOf, rListOfC, rTupleOf, rIsiD, rAllD, rAnyD, rSumD, rHex, mLower, mUpper, mRfind, mIndex,
    mSplit, mPart, mJoin, mStarts, mEnds, startG, endG, endN, endW, eqS_iff, eqI_iff, eqB_iff, eqL_iff, lsOwn_ls, lsOf_ls, lsOf_rl, sqOf_ls, sqOf_rl, sqOf_tp, tpOf_tp, truD_ls, truD_rl, truD_tp, truD_bl, truD_int, truD_non, cPure, cNew, cBagA, sPure, isNon, flatD, tyD,
    cut_from1, cut_init, atI_0, atI_1, atI_2, atI_last, List.map_cons, List.map_nil, List.cons_append, List.nil_append, List.replicate, List.getElem?_cons_zero, List.getElem?_cons_succ, List.getElem?_nil, List.set_cons_zero, List.set_cons_succ, Option.some.injEq, exists_eq_left', exists_eq_left, Option.some_or, Option.none_or, Option.or_some, List.length_cons, List.length_nil, List.length_map, Nat.sub_zero, Nat.reduceSub, Nat.reduceAdd, Nat.reduceLeDiff, List.isEmpty_cons, List.isEmpty_nil, true_and, and_true, if_true, if_false, reduceIte, Bool.not_true, Bool.not_false, Bool.false_eq_true, reduceCtorEq, List.forall_mem_cons, List.forall_mem_nil, implies_true, List.mem_singleton, forall_eq, decide_eq_true_eq, Bool.not_eq_true', decide_eq_false_iff_not, okM0_iff, List.take_zero, gr_str_iff, gr_int_iff, gr_bl_iff, gr_non_iff, gr_lss_iff, gr_ls0_iff, sqOf_1, lsOf_1, lsOwn_1, ixN_30, ixN_31, ixN_32, setIx_iff, setIx_iff', D.cel.injEq, not_true_eq_false, not_false_eq_true, cut_to1]
  refine ⟨by omega, ?_⟩
  unfold cleanedP written at k
  rw [pre1_take, pre2_take] at k
  by_cases c : p.take 1 = [47]
  · rw [if_neg (fun z => z c), hN]
    rw [if_pos (decide_eq_true c)] at k
    refine seq_g fun N hN => ?_
    simp only [dSeq, dNext, dRet, dRetN, dDrop, dSet, dIfS, dBrk, dCnt, dPar, dAug, dSetIx, dFor, dEsc, dChain, dNever, iEn, iEnS, iEnSK, iZp, dUnp, dVar, dC, dOp, dSl, dSlC, dPart, dNo, dTup, dLst, dLstC, dIf, dNot, dAnd, dOr, rNegD, dCall, dM, dM0, dApp, dFrz, dFz, dLc, dFn, dFn0, dFnK, aCons, aNil,
    qTru, qNot, qAnd, qOr, qYes, iLst, iTp, iStr', iR1, iR2, Tgt.d, setAll, wipeG, rAddD, rSubD, rMulD, rModD, rFdivD, rPowD, rOrdD, rIAddD, rIsN', rIxD, rSlD, rLen, rAbs, rMax2, rMin2, rInt1, rOrd, rListOf, rListOfC, rTupleOf, rIsiD, rAllD, rAnyD, rSumD, rHex, mLower, mUpper, mRfind, mIndex,
    mSplit, mPart, mJoin, mStarts, mEnds, startG, endG, endN, endW, eqS_iff, eqI_iff, eqB_iff, eqL_iff, lsOwn_ls, lsOf_ls, lsOf_rl, sqOf_ls, sqOf_rl, sqOf_tp, tpOf_tp, truD_ls, truD_rl, truD_tp, truD_bl, truD_int, truD_non, cPure, cNew, cBagA, sPure, isNon, flatD, tyD,
    cut_from1, cut_init, atI_0, atI_1, atI_2, atI_last, List.map_cons, List.map_nil, List.cons_append, List.nil_append, List.replicate, List.getElem?_cons_zero, List.getElem?_cons_succ, List.getElem?_nil, List.set_cons_zero, List.set_cons_succ, Option.some.injEq, exists_eq_left', exists_eq_left, Option.some_or, Option.none_or, Option.or_some, List.length_cons, List.length_nil, List.length_map, Nat.sub_zero, Nat.reduceSub, Nat.reduceAdd, Nat.reduceLeDiff, List.isEmpty_cons, List.isEmpty_nil, true_and, and_true, if_true, if_false, reduceIte, Bool.not_true, Bool.not_false, Bool.false_eq_true, reduceCtorEq, List.forall_mem_cons, List.forall_mem_nil, implies_true, List.mem_singleton, forall_eq, decide_eq_true_eq, Bool.not_eq_true', decide_eq_false_iff_not, okM0_iff, List.take_zero, gr_str_iff, gr_int_iff, gr_bl_iff, gr_non_iff, gr_lss_iff, gr_ls0_iff, sqOf_1, lsOf_1, lsOwn_1, ixN_30, ixN_31, ixN_32, setIx_iff, setIx_iff', D.cel.injEq, not_true_eq_false, not_false_eq_true]
    refine ⟨p, rfl, rfl, hp, rfl, stackOf p, rfl, ?_, by omega, ?_⟩
    · show ((stackOf p).map List.length).sum + (stackOf p).length * 1 ≤ 16777216
      omega
    rw [hN]
    simp only [dSeq, dNext, dRet, dRetN, dDrop, dSet, dIfS, dBrk, dCnt, dPar, dAug, dSetIx, dFor, dEsc, dChain, dNever, iEn, iEnS, iEnSK, iZp, dUnp, dVar, dC, dOp, dSl, dSlC, dPart, dNo, dTup, dLst, dLstC, dIf, dNot, dAnd, dOr, rNegD, dCall, dM, dM0, dApp, dFrz, dFz, dLc, dFn, dFn0, dFnK, aCons, aNil,
    qTru, qNot, qAnd, qOr, qYes, iLst, iTp, iStr', iR1, iR2, Tgt.d, setAll, wipeG, rAddD, rSubD, rMulD, rModD, rFdivD, rPowD, rOrdD, rIAddD, rIsN', rIxD, rSlD, rLen, rAbs, rMax2, rMin2, rInt1, rOrd, rListOf, rListOfC, rTupleOf, rIsiD, rAllD, rAnyD, rSumD, rHex, mLower, mUpper, mRfind, mIndex,
    mSplit, mPart, mJoin, mStarts, mEnds, startG, endG, endN, endW, eqS_iff, eqI_iff, eqB_iff, eqL_iff, lsOwn_ls, lsOf_ls, lsOf_rl, sqOf_ls, sqOf_rl, sqOf_tp, tpOf_tp, truD_ls, truD_rl, truD_tp, truD_bl, truD_int, truD_non, cPure, cNew, cBagA, sPure, isNon, flatD, tyD,
    cut_from1, cut_init, atI_0, atI_1, atI_2, atI_last, List.map_cons, List.map_nil, List.cons_append, List.nil_append, List.replicate, List.getElem?_cons_zero, List.getElem?_cons_succ, List.getElem?_nil, List.set_cons_zero, List.set_cons_succ, Option.some.injEq, exists_eq_left', exists_eq_left, Option.some_or, Option.none_or, Option.or_some, List.length_cons, List.length_nil, List.length_map, Nat.sub_zero, Nat.reduceSub, Nat.reduceAdd, Nat.reduceLeDiff, List.isEmpty_cons, List.isEmpty_nil, true_and, and_true, if_true, if_false, reduceIte, Bool.not_true, Bool.not_false, Bool.false_eq_true, reduceCtorEq, List.forall_mem_cons, List.forall_mem_nil, implies_true, List.mem_singleton, forall_eq, decide_eq_true_eq, Bool.not_eq_true', decide_eq_false_iff_not, okM0_iff, List.take_zero, gr_str_iff, gr_int_iff, gr_bl_iff, gr_non_iff, gr_lss_iff, gr_ls0_iff, sqOf_1, lsOf_1, lsOwn_1, ixN_30, ixN_31, ixN_32, setIx_iff, setIx_iff', D.cel.injEq, not_true_eq_false, not_false_eq_true, cut_to2]
    cases b with
    | true => exact k
    | false =>
      simp only [dSeq, dNext, dRet, dRetN, dDrop, dSet, dIfS, dBrk, dCnt, dPar, dAug, dSetIx, dFor, dEsc, dChain, dNever, iEn, iEnS, iEnSK, iZp, dUnp, dVar, dC, dOp, dSl, dSlC, dPart, dNo, dTup, dLst, dLstC, dIf, dNot, dAnd, dOr, rNegD, dCall, dM, dM0, dApp, dFrz, dFz, dLc, dFn, dFn0, dFnK, aCons, aNil,
    qTru, qNot, qAnd, qOr, qYes, iLst, iTp, iStr', iR1, iR2, Tgt.d, setAll, wipeG, rAddD, rSubD, rMulD, rModD, rFdivD, rPowD, rOrdD, rIAddD, rIsN', rIxD, rSlD, rLen, rAbs, rMax2, rMin2, rInt1, rOrd, rListOf, rListOfC, rTupleOf, rIsiD, rAllD, rAnyD, rSumD, rHex, mLower, mUpper, mRfind, mIndex,
    mSplit, mPart, mJoin, mStarts, mEnds, startG, endG, endN, endW, eqS_iff, eqI_iff, eqB_iff, eqL_iff, lsOwn_ls, lsOf_ls, lsOf_rl, sqOf_ls, sqOf_rl, sqOf_tp, tpOf_tp, truD_ls, truD_rl, truD_tp, truD_bl, truD_int, truD_non, cPure, cNew, cBagA, sPure, isNon, flatD, tyD,
    cut_from1, cut_init, atI_0, atI_1, atI_2, atI_last, List.map_cons, List.map_nil, List.cons_append, List.nil_append, List.replicate, List.getElem?_cons_zero, List.getElem?_cons_succ, List.getElem?_nil, List.set_cons_zero, List.set_cons_succ, Option.some.injEq, exists_eq_left', exists_eq_left, Option.some_or, Option.none_or, Option.or_some, List.length_cons, List.length_nil, List.length_map, Nat.sub_zero, Nat.reduceSub, Nat.reduceAdd, Nat.reduceLeDiff, List.isEmpty_cons, List.isEmpty_nil, true_and, and_true, if_true, if_false, reduceIte, Bool.not_true, Bool.not_false, Bool.false_eq_true, reduceCtorEq, List.forall_mem_cons, List.forall_mem_nil, implies_true, List.mem_singleton, forall_eq, decide_eq_true_eq, Bool.not_eq_true', decide_eq_false_iff_not, okM0_iff, List.take_zero, gr_str_iff, gr_int_iff, gr_bl_iff, gr_non_iff, gr_lss_iff, gr_ls0_iff, sqOf_1, lsOf_1, lsOwn_1, ixN_30, ixN_31, ixN_32, setIx_iff, setIx_iff', D.cel.injEq, not_true_eq_false, not_false_eq_true]
      refine ⟨by omega, ?_⟩
      by_cases c2 : (47 :: jn [47] (stackOf p)).take 2 = [47, 47]
      · rw [if_pos c2]
        rw [decide_eq_true c2] at k
        exact ⟨by omega, k⟩
      · rw [if_neg c2]
        rw [decide_eq_false c2] at k
        exact k
  · rw [if_pos c]
    rw [if_neg (by simpa using c)] at k
    exact k
/-! ### the plain law: cleaned twice is cleaned once -/
theorem spC_jn (c : Nat) : ∀ (a : Tx) (r : List Tx), (∀ s ∈ a :: r, c ∉ s) → spC c (jn [c] (a :: r)) = a :: r
  | a, [], h => by
    have ha : c ∉ a := h a List.mem_cons_self
    show spC c a = [a]
    clear h
    induction a with
    | nil => rfl
    | cons x t ih =>
      have e := ih fun z => ha (List.mem_cons_of_mem _ z)
      exact spC_miss (fun z => ha (by rw [z]; exact List.mem_cons_self)) e
  | a, b :: r, h => by
    have ha : c ∉ a := h a List.mem_cons_self
    have ih := spC_jn c b r fun s hs => h s (List.mem_cons_of_mem _ hs)
    show spC c (a ++ [c] ++ jn [c] (b :: r)) = _
    clear h
    induction a with
    | nil => exact (spC_hit _ rfl).trans (congrArg (List.cons []) ih)
    | cons x t ih2 =>
      have e := ih2 fun z => ha (List.mem_cons_of_mem _ z)
      exact spC_miss (fun z => ha (by rw [z]; exact List.mem_cons_self)) e
theorem spC_no (c : Nat) : ∀ (l : Tx) (s : Tx), s ∈ spC c l → c ∉ s
  | [], s, h => by
    have e : s = [] := by simpa [spC] using h
    rw [e]
    exact List.not_mem_nil
  | x :: r, s, h => by
    by_cases hx : x = c
    · rw [spC_hit r hx] at h
      rcases List.mem_cons.mp h with h | h
      · rw [h]; exact List.not_mem_nil
      · exact spC_no c r s h
    · cases e : spC c r with
      | nil => exact absurd e (spC_ne c r)
      | cons a b =>
        rw [spC_miss hx e] at h
        rcases List.mem_cons.mp h with h | h
        · rw [h]
          intro z
          rcases List.mem_cons.mp z with z | z
          · exact hx z.symm
          · exact spC_no c r a (by rw [e]; exact List.mem_cons_self) z
        · exact spC_no c r s (by rw [e]; exact List.mem_cons_of_mem _ h)
/-- no dots, no slash -/
def Fine (s : Tx) : Prop := 47 ∉ s ∧ s ≠ [46] ∧ s ≠ [46, 46]
theorem fine_pstep {acc : List Tx} {s : Tx} (h : ∀ t ∈ acc, Fine t) (hs : 47 ∉ s) : ∀ t ∈ pstep acc s, Fine t := by
  unfold pstep
  intro t ht
  split at ht
  · exact h t (List.mem_of_mem_take (by rwa [List.dropLast_eq_take] at ht))
  · split at ht
    · exact h t ht
    · rcases List.mem_append.mp ht with h2 | h2
      · exact h t h2
      · rw [List.mem_singleton.mp h2]
        exact ⟨hs, by assumption, by assumption⟩
theorem fine_push : ∀ (rows acc : List Tx), (∀ t ∈ acc, Fine t) → (∀ s ∈ rows, 47 ∉ s) → ∀ t ∈ push acc rows, Fine t
  | [], acc, h, _ => h
  | s :: r, acc, h, hs => fine_push r (pstep acc s) (fine_pstep h (hs s List.mem_cons_self)) fun t ht => hs t (List.mem_cons_of_mem _ ht)
theorem fine_stack (p : Tx) : ∀ t ∈ stackOf p, Fine t := by
  have h := fine_push (segs p) [] (fun t ht => nomatch ht) fun s hs => spC_no 47 _ s hs
  unfold stackOf
  split
  · intro t ht
    rcases List.mem_append.mp ht with h2 | h2
    · exact h t h2
    · rw [List.mem_singleton.mp h2]
      exact ⟨List.not_mem_nil, by decide, by decide⟩
  · exact h
theorem push_app (acc a b : List Tx) : push acc (a ++ b) = push (push acc a) b := List.foldl_append
theorem push_fine : ∀ (rows acc : List Tx), (∀ s ∈ rows, Fine s) → push acc rows = acc ++ rows
  | [], acc, _ => (List.append_nil _).symm
  | s :: r, acc, h => by
    obtain ⟨_, h1, h2⟩ := h s List.mem_cons_self
    have e : pstep acc s = acc ++ [s] := by unfold pstep; rw [if_neg h2, if_neg h1]
    show push (pstep acc s) r = _
    rw [e, push_fine r _ fun t ht => h t (List.mem_cons_of_mem _ ht), List.append_assoc]
    rfl
theorem stack_ne (p : Tx) : stackOf p ≠ [] := by
  unfold stackOf
  cases c : dotty (lastS p) with
  | true => simp
  | false =>
    have hl : segs p ≠ [] := spC_ne 47 _
    have e : segs p = (segs p).dropLast ++ [lastS p] := (List.dropLast_concat_getLast hl).symm
    have hd : lastS p ≠ [46] ∧ lastS p ≠ [46, 46] := by
      unfold dotty at c
      simpa using c
    rw [if_neg (by decide), e, push_app]
    show pstep _ (lastS p) ≠ []
    unfold pstep
    rw [if_neg hd.2, if_neg hd.1]
    simp
theorem dotty_fine {s : Tx} (h : Fine s) : dotty s = false := by
  unfold dotty
  simp [h.2.1, h.2.2]
/-- what a road of fine rows is cut into -/
theorem stack_road {l : List Tx} (hn : l ≠ []) (h : ∀ s ∈ l, Fine s) : stackOf (47 :: jn [47] l) = l := by
  have e : segs (47 :: jn [47] l) = l := by
    cases l with
    | nil => exact absurd rfl hn
    | cons a r => exact spC_jn 47 a r fun s hs => (h s hs).1
  have h1 : push [] l = l := push_fine l [] h
  have h2 : dotty (lastS (47 :: jn [47] l)) = false := by
    apply dotty_fine
    apply h
    have : lastS (47 :: jn [47] l) ∈ segs (47 :: jn [47] l) := List.getLast_mem _
    rwa [e] at this
  unfold stackOf
  rw [h2, if_neg (by decide), e, h1]
theorem stack_dotted {l : List Tx} (hn : l ≠ []) (h : ∀ s ∈ l, Fine s) : stackOf (47 :: 46 :: 47 :: jn [47] l) = l := by
  have e : segs (47 :: 46 :: 47 :: jn [47] l) = [46] :: l := by
    cases l with
    | nil => exact absurd rfl hn
    | cons a r =>
      have q : spC 47 (47 :: jn [47] (a :: r)) = [] :: a :: r := by rw [spC_hit _ rfl, spC_jn 47 a r fun s hs => (h s hs).1]
      exact spC_miss (by decide) q
  have h1 : push [] ([46] :: l) = l := push_fine l [] h
  have h2 : dotty (lastS (47 :: 46 :: 47 :: jn [47] l)) = false := by
    apply dotty_fine
    have hl : lastS (47 :: 46 :: 47 :: jn [47] l) = l.getLast hn := by
      unfold lastS
      simp only [e]
      exact List.getLast_cons hn
    rw [hl]
    exact h _ (List.getLast_mem _)
  unfold stackOf
  rw [h2, if_neg (by decide), e, h1]
theorem cleaned_twice (p : Tx) (b : Bool) : cleanedP (cleanedP p b) b = cleanedP p b := by
  have hf := fine_stack p
  have hn := stack_ne p
  unfold cleanedP
  cases c : [47].isPrefixOf p with
  | false =>
    show (if [47].isPrefixOf p = true then _ else p) = p
    rw [c]
    rfl
  | true =>
    rw [if_pos rfl]
    have hw : [47].isPrefixOf (written (stackOf p) b) = true := by
      unfold written
      split <;> rfl
    have hs : stackOf (written (stackOf p) b) = stackOf p := by
      unfold written
      split
      · exact stack_road hn hf
      · exact stack_dotted hn hf
    rw [if_pos hw, hs]
end L3

namespace L3
open PySem PySem.Spec PyProof.Rows L2 Evl
open Classical
local macro_rules | `(tactic| dsimp! [$xs,*]) => `(tactic| simp only [dSeq, dNext, dRet, dRetN, dDrop, dSet, dIfS, dBrk, dCnt, dPar, dAug, dSetIx, dFor, dEsc, dChain, dNever, iEn, iEnS, iEnSK, iZp, dUnp, dVar, dC, dOp, dSl, dSlC, dPart, dNo, dTup, dLst, dLstC, dIf, dNot, dAnd, dOr, rNegD, dCall, dM, dM0, dApp, dFrz, dFz, dLc, dFn, dFn0, dFnK, aCons, aNil,
    qTru, qNot, qAnd, qOr, qYes, iLst, iTp, iStr', iR1, iR2, Tgt.d, setAll, wipeG, rAddD, rSubD, rMulD, rModD, rFdivD, rPowD, rOrdD, rIAddD, rIsN', rIxD, rSlD, rLen, rAbs, rMax2, rMin2, rInt1, rOrd, rListOf, rListOfC, rTupleOf, rIsiD, rAllD, rAnyD, rSumD, rHex, mLower, mUpper, mRfind, mIndex,
    mSplit, mPart, mJoin, mStarts, mEnds, startG, endG, endN, endW, eqS_iff, eqI_iff, eqB_iff, eqL_iff, lsOwn_ls, lsOf_ls, lsOf_rl, sqOf_ls, sqOf_rl, sqOf_tp, tpOf_tp, truD_ls, truD_rl, truD_tp, truD_bl, truD_int, truD_non, cPure, cNew, cBagA, sPure, isNon, flatD, tyD,
    cut_from1, cut_init, atI_0, atI_1, atI_2, atI_last, List.map_cons, List.map_nil, List.cons_append, List.nil_append, List.replicate, List.getElem?_cons_zero, List.getElem?_cons_succ, List.getElem?_nil, List.set_cons_zero, List.set_cons_succ, Option.some.injEq, exists_eq_left', exists_eq_left, Option.some_or, Option.none_or, Option.or_some, List.length_cons, List.length_nil, List.length_map, Nat.sub_zero, Nat.reduceSub, Nat.reduceAdd, Nat.reduceLeDiff, List.isEmpty_cons, List.isEmpty_nil, true_and, and_true, if_true, if_false, reduceIte, Bool.not_true, Bool.not_false, Bool.false_eq_true, reduceCtorEq, List.forall_mem_cons, List.forall_mem_nil, implies_true, List.mem_singleton, forall_eq, decide_eq_true_eq, Bool.not_eq_true', decide_eq_false_iff_not, okM0_iff, List.take_zero, gr_str_iff, gr_int_iff, gr_bl_iff, gr_non_iff, gr_lss_iff, gr_ls0_iff, sqOf_1, lsOf_1, lsOwn_1, ixN_30, ixN_31, ixN_32, setIx_iff, setIx_iff', D.cel.injEq, not_true_eq_false, not_false_eq_true, $xs,*])
/-! ### escapes: mirrors -/
def isHexB (c : Nat) : Bool := decide (48 ≤ c ∧ c ≤ 57) || decide (65 ≤ c ∧ c ≤ 70) || decide (97 ≤ c ∧ c ≤ 102)
def escAt (t : Tx) (i : Nat) : Bool := (t.drop i).take 1 == [94] && ((t.drop (i + 1)).take 2).length == 2 && ((t.drop (i + 1)).take 2).all isHexB
abbrev hexSigns : Tx := [48, 49, 50, 51, 52, 53, 54, 55, 56, 57, 65, 66, 67, 68, 69, 70, 97, 98, 99, 100, 101, 102]
theorem mem_hex (c : Nat) : decide (c ∈ hexSigns) = isHexB c := by
  unfold isHexB
  rw [Bool.eq_iff_iff]
  simp only [decide_eq_true_eq, Bool.or_eq_true, hexSigns, List.mem_cons, List.not_mem_nil, or_false]
  omega
theorem cut_add (t : Tx) (i a b : Nat) : cut t (some ((i : Int) + (a : Nat))) (some ((i : Int) + (b : Nat))) = (t.drop (i + a)).take (b - a) := by
  have e1 : ((i : Int) + (a : Nat)) = ((i + a : Nat) : Int) := by omega
  have e2 : ((i : Int) + (b : Nat)) = ((i + b : Nat) : Int) := by omega
  rw [e1, e2, cut_between]
  congr 1
  omega
def sp_p_is_escape_at : DSpec := fun ds M K _ => ∃ (t : Tx) (i : Nat), ds = [.str t, .int i] ∧ M = [] ∧ t.length ≤ 100000 ∧ K (.bl (escAt t i)) []
def rd_p_is_escape_at : DS :=
  (dSeq (dSet 2 (dSl (dVar 0) (dPart (dOp rAddD (dVar 1) (dC (.int 1)))) (dPart (dOp rAddD (dVar 1) (dC (.int 3))))))
    (dRet (dAnd (dOp (rEqD' false) (dSl (dVar 0) (dPart (dVar 1)) (dPart (dOp rAddD (dVar 1) (dC (.int 1))))) (dC (.str [94]))) (dAnd (dOp (rEqD' false) (dCall rLen (aCons (dVar 2) aNil)) (dC (.int 2))) (dCall rAllD (aCons (dLc (iStr' (dVar 2)) (Tgt.nm 3) qYes (dOp (rInD false) (dVar 3) (dC (.str [48, 49, 50, 51, 52, 53, 54, 55, 56, 57, 65, 66, 67, 68, 69, 70, 97, 98, 99, 100, 101, 102]))) [3]) aNil))))))
theorem comp_hex {chk : MM → Prop} (hc : ∀ M, chk M) {Γw : G} (hl : Γw.length = 4) {K : Kd} (q : Tx) (hq : q.length ≤ 1000) (k : K (.ls ((q.map isHexB).map .bl)) []) :
    compD chk (Tgt.nm 3) qYes (dOp (rInD false) (dVar 3) (dC (.str hexSigns))) Γw K (q.map fun c => .str [c]) [] [] := by
  refine comp_ind (P := fun r acc M => ∃ (a b : Tx), r = b.map (fun c => .str [c]) ∧ acc = (a.map isHexB).map .bl ∧ M = [] ∧ a ++ b = q ∧ acc.length + b.length ≤ 16777216) ?_ ?_ _ _ _ ⟨[], q, rfl, rfl, rfl, rfl, ?_⟩
  · rintro acc M ⟨a, b, e, rfl, rfl, h, _⟩
    have hb : b = [] := by simpa using e.symm
    subst hb
    rw [List.append_nil] at h
    subst h
    exact ⟨hc _, k⟩
  · rintro d r acc M N hN ⟨a, b, e, rfl, rfl, h, hz⟩
    cases b with
    | nil => cases e
    | cons c b =>
      cases e
      refine ⟨hc _, ?_⟩
      simp only [dSeq, dNext, dRet, dRetN, dDrop, dSet, dIfS, dBrk, dCnt, dPar, dAug, dSetIx, dFor, dEsc, dChain, dNever, iEn, iEnS, iEnSK, iZp, dUnp, dVar, dC, dOp, dSl, dSlC, dPart, dNo, dTup, dLst, dLstC, dIf, dNot, dAnd, dOr, rNegD, dCall, dM, dM0, dApp, dFrz, dFz, dLc, dFn, dFn0, dFnK, aCons, aNil,
    qTru, qNot, qAnd, qOr, qYes, iLst, iTp, iStr', iR1, iR2, Tgt.d, setAll, wipeG, rAddD, rSubD, rMulD, rModD, rFdivD, rPowD, rOrdD, rIAddD, rIsN', rIxD, rSlD, rLen, rAbs, rMax2, rMin2, rInt1, rOrd, rListOf, rListOfC, rTupleOf, rIsiD, rAllD, rAnyD, rSumD, rHex, mLower, mUpper, mRfind, mIndex,
    mSplit, mPart, mJoin, mStarts, mEnds, startG, endG, endN, endW, eqS_iff, eqI_iff, eqB_iff, eqL_iff, lsOwn_ls, lsOf_ls, lsOf_rl, sqOf_ls, sqOf_rl, sqOf_tp, tpOf_tp, truD_ls, truD_rl, truD_tp, truD_bl, truD_int, truD_non, cPure, cNew, cBagA, sPure, isNon, flatD, tyD,
    cut_from1, cut_init, atI_0, atI_1, atI_2, atI_last, List.map_cons, List.map_nil, List.cons_append, List.nil_append, List.replicate, List.getElem?_cons_zero, List.getElem?_cons_succ, List.getElem?_nil, List.set_cons_zero, List.set_cons_succ, Option.some.injEq, exists_eq_left', exists_eq_left, Option.some_or, Option.none_or, Option.or_some, List.length_cons, List.length_nil, List.length_map, Nat.sub_zero, Nat.reduceSub, Nat.reduceAdd, Nat.reduceLeDiff, List.isEmpty_cons, List.isEmpty_nil, true_and, and_true, if_true, if_false, reduceIte, Bool.not_true, Bool.not_false, Bool.false_eq_true, reduceCtorEq, List.forall_mem_cons, List.forall_mem_nil, implies_true, List.mem_singleton, forall_eq, decide_eq_true_eq, Bool.not_eq_true', decide_eq_false_iff_not, okM0_iff, List.take_zero, gr_str_iff, gr_int_iff, gr_bl_iff, gr_non_iff, gr_lss_iff, gr_ls0_iff, sqOf_1, lsOf_1, lsOwn_1, ixN_30, ixN_31, ixN_32, setIx_iff, setIx_iff', D.cel.injEq, not_true_eq_false, not_false_eq_true]
      refine ⟨_, List.getElem?_set_self (by omega), ?_⟩
      show _ < _ ∧ N _ []
      refine ⟨by simp at hz ⊢; omega, hN _ _ ⟨a ++ [c], b, rfl, ?_, rfl, by simpa using h, by simp at hz ⊢; omega⟩⟩
      rw [List.map_append, List.map_append]
      show _ = _ ++ [D.bl (isHexB c)]
      rw [← mem_hex]
      rfl
  · show 0 + q.length ≤ _
    omega
theorem sem_p_is_escape_at (ds : List D) (M : MM) (K0 : Kd) (R0 : Kx) (h : sp_p_is_escape_at ds M K0 R0) : rd_p_is_escape_at (endG M.length K0 R0) (startG 4 ds) M := by
  obtain ⟨t, i, rfl, rfl, ht, k⟩ := h
  unfold rd_p_is_escape_at
  refine seq_g fun N hN => ?_
  simp only [dSeq, dNext, dRet, dRetN, dDrop, dSet, dIfS, dBrk, dCnt, dPar, dAug, dSetIx, dFor, dEsc, dChain, dNever, iEn, iEnS, iEnSK, iZp, dUnp, dVar, dC, dOp, dSl, dSlC, dPart, dNo, dTup, dLst, dLstC, dIf, dNot, dAnd, dOr, rNegD, dCall, dM, dM0, dApp, dFrz, dFz, dLc, dFn, dFn0, dFnK, aCons, aNil,
    qTru, qNot, qAnd, qOr, qYes, iLst, iTp, iStr', iR1, iR2, Tgt.d, setAll, wipeG, rAddD, rSubD, rMulD, rModD, rFdivD, rPowD, rOrdD, rIAddD, rIsN', rIxD, rSlD, rLen, rAbs, rMax2, rMin2, rInt1, rOrd, rListOf, rListOfC, rTupleOf, rIsiD, rAllD, rAnyD, rSumD, rHex, mLower, mUpper, mRfind, mIndex,
    mSplit, mPart, mJoin, mStarts, mEnds, startG, endG, endN, endW, eqS_iff, eqI_iff, eqB_iff, eqL_iff, lsOwn_ls, lsOf_ls, lsOf_rl, sqOf_ls, sqOf_rl, sqOf_tp, tpOf_tp, truD_ls, truD_rl, truD_tp, truD_bl, truD_int, truD_non, cPure, cNew, cBagA, sPure, isNon, flatD, tyD,
    cut_from1, cut_init, atI_0, atI_1, atI_2, atI_last, List.map_cons, List.map_nil, List.cons_append, List.nil_append, List.replicate, List.getElem?_cons_zero, List.getElem?_cons_succ, List.getElem?_nil, List.set_cons_zero, List.set_cons_succ, Option.some.injEq, exists_eq_left', exists_eq_left, Option.some_or, Option.none_or, Option.or_some, List.length_cons, List.length_nil, List.length_map, Nat.sub_zero, Nat.reduceSub, Nat.reduceAdd, Nat.reduceLeDiff, List.isEmpty_cons, List.isEmpty_nil, true_and, and_true, if_true, if_false, reduceIte, Bool.not_true, Bool.not_false, Bool.false_eq_true, reduceCtorEq, List.forall_mem_cons, List.forall_mem_nil, implies_true, List.mem_singleton, forall_eq, decide_eq_true_eq, Bool.not_eq_true', decide_eq_false_iff_not, okM0_iff, List.take_zero, gr_str_iff, gr_int_iff, gr_bl_iff, gr_non_iff, gr_lss_iff, gr_ls0_iff, sqOf_1, lsOf_1, lsOwn_1, ixN_30, ixN_31, ixN_32, setIx_iff, setIx_iff', D.cel.injEq, not_true_eq_false, not_false_eq_true]
  have e3 : cut t (some ((i : Int) + 1)) (some ((i : Int) + 3)) = (t.drop (i + 1)).take 2 := cut_add t i 1 3
  have e1 : cut t (some (i : Int)) (some ((i : Int) + 1)) = (t.drop i).take 1 := by
    have := cut_add t i 0 1
    simpa using this
  refine ⟨by omega, ?_⟩
  rw [hN]
  simp only [dSeq, dNext, dRet, dRetN, dDrop, dSet, dIfS, dBrk, dCnt, dPar, dAug, dSetIx, dFor, dEsc, dChain, dNever, iEn, iEnS, iEnSK, iZp, dUnp, dVar, dC, dOp, dSl, dSlC, dPart, dNo, dTup, dLst, dLstC, dIf, dNot, dAnd, dOr, rNegD, dCall, dM, dM0, dApp, dFrz, dFz, dLc, dFn, dFn0, dFnK, aCons, aNil,
    qTru, qNot, qAnd, qOr, qYes, iLst, iTp, iStr', iR1, iR2, Tgt.d, setAll, wipeG, rAddD, rSubD, rMulD, rModD, rFdivD, rPowD, rOrdD, rIAddD, rIsN', rIxD, rSlD, rLen, rAbs, rMax2, rMin2, rInt1, rOrd, rListOf, rListOfC, rTupleOf, rIsiD, rAllD, rAnyD, rSumD, rHex, mLower, mUpper, mRfind, mIndex,
    mSplit, mPart, mJoin, mStarts, mEnds, startG, endG, endN, endW, eqS_iff, eqI_iff, eqB_iff, eqL_iff, lsOwn_ls, lsOf_ls, lsOf_rl, sqOf_ls, sqOf_rl, sqOf_tp, tpOf_tp, truD_ls, truD_rl, truD_tp, truD_bl, truD_int, truD_non, cPure, cNew, cBagA, sPure, isNon, flatD, tyD,
    cut_from1, cut_init, atI_0, atI_1, atI_2, atI_last, List.map_cons, List.map_nil, List.cons_append, List.nil_append, List.replicate, List.getElem?_cons_zero, List.getElem?_cons_succ, List.getElem?_nil, List.set_cons_zero, List.set_cons_succ, Option.some.injEq, exists_eq_left', exists_eq_left, Option.some_or, Option.none_or, Option.or_some, List.length_cons, List.length_nil, List.length_map, Nat.sub_zero, Nat.reduceSub, Nat.reduceAdd, Nat.reduceLeDiff, List.isEmpty_cons, List.isEmpty_nil, true_and, and_true, if_true, if_false, reduceIte, Bool.not_true, Bool.not_false, Bool.false_eq_true, reduceCtorEq, List.forall_mem_cons, List.forall_mem_nil, implies_true, List.mem_singleton, forall_eq, decide_eq_true_eq, Bool.not_eq_true', decide_eq_false_iff_not, okM0_iff, List.take_zero, gr_str_iff, gr_int_iff, gr_bl_iff, gr_non_iff, gr_lss_iff, gr_ls0_iff, sqOf_1, lsOf_1, lsOwn_1, ixN_30, ixN_31, ixN_32, setIx_iff, setIx_iff', D.cel.injEq, not_true_eq_false, not_false_eq_true, e1, e3]
  have hq : ((t.drop (i + 1)).take 2).length ≤ 2 := by rw [List.length_take]; omega
  unfold escAt at k
  refine ⟨by omega, ?_⟩
  by_cases c1 : (t.drop i).take 1 = [94]
  · rw [if_pos c1]
    rw [beq_iff_eq.mpr c1] at k
    refine ⟨by omega, ?_⟩
    by_cases c2 : ((t.drop (i + 1)).take 2).length = 2
    · rw [if_pos (by omega)]
      rw [beq_iff_eq.mpr c2] at k
      refine ⟨_, rfl, comp_hex (fun _ => trivial) rfl _ (by omega) ?_⟩
      simp only [dSeq, dNext, dRet, dRetN, dDrop, dSet, dIfS, dBrk, dCnt, dPar, dAug, dSetIx, dFor, dEsc, dChain, dNever, iEn, iEnS, iEnSK, iZp, dUnp, dVar, dC, dOp, dSl, dSlC, dPart, dNo, dTup, dLst, dLstC, dIf, dNot, dAnd, dOr, rNegD, dCall, dM, dM0, dApp, dFrz, dFz, dLc, dFn, dFn0, dFnK, aCons, aNil,
    qTru, qNot, qAnd, qOr, qYes, iLst, iTp, iStr', iR1, iR2, Tgt.d, setAll, wipeG, rAddD, rSubD, rMulD, rModD, rFdivD, rPowD, rOrdD, rIAddD, rIsN', rIxD, rSlD, rLen, rAbs, rMax2, rMin2, rInt1, rOrd, rListOf, rListOfC, rTupleOf, rIsiD, rAllD, rAnyD, rSumD, rHex, mLower, mUpper, mRfind, mIndex,
    mSplit, mPart, mJoin, mStarts, mEnds, startG, endG, endN, endW, eqS_iff, eqI_iff, eqB_iff, eqL_iff, lsOwn_ls, lsOf_ls, lsOf_rl, sqOf_ls, sqOf_rl, sqOf_tp, tpOf_tp, truD_ls, truD_rl, truD_tp, truD_bl, truD_int, truD_non, cPure, cNew, cBagA, sPure, isNon, flatD, tyD,
    cut_from1, cut_init, atI_0, atI_1, atI_2, atI_last, List.map_cons, List.map_nil, List.cons_append, List.nil_append, List.replicate, List.getElem?_cons_zero, List.getElem?_cons_succ, List.getElem?_nil, List.set_cons_zero, List.set_cons_succ, Option.some.injEq, exists_eq_left', exists_eq_left, Option.some_or, Option.none_or, Option.or_some, List.length_cons, List.length_nil, List.length_map, Nat.sub_zero, Nat.reduceSub, Nat.reduceAdd, Nat.reduceLeDiff, List.isEmpty_cons, List.isEmpty_nil, true_and, and_true, if_true, if_false, reduceIte, Bool.not_true, Bool.not_false, Bool.false_eq_true, reduceCtorEq, List.forall_mem_cons, List.forall_mem_nil, implies_true, List.mem_singleton, forall_eq, decide_eq_true_eq, Bool.not_eq_true', decide_eq_false_iff_not, okM0_iff, List.take_zero, gr_str_iff, gr_int_iff, gr_bl_iff, gr_non_iff, gr_lss_iff, gr_ls0_iff, sqOf_1, lsOf_1, lsOwn_1, ixN_30, ixN_31, ixN_32, setIx_iff, setIx_iff', D.cel.injEq, not_true_eq_false, not_false_eq_true]
      refine ⟨_, rfl, ?_⟩
      rw [List.all_map]
      exact k
    · rw [if_neg (by omega), decide_eq_false (by omega)]
      rw [beq_eq_false_iff_ne.mpr c2] at k
      exact k
  · rw [if_neg c1, decide_eq_false c1]
    rw [beq_eq_false_iff_ne.mpr c1] at k
    exact k

end L3

namespace L3
open PySem PySem.Spec PyProof.Rows L2 Evl
open Classical
local macro_rules | `(tactic| simp!) => `(tactic| try simp only [↓e_while, ↓e_var, ↓e_c, ↓e_op, ↓e_nil, ↓e_cons, ↓e_tup, ↓e_lst, ↓e_lstC, ↓e_tru, ↓e_qnot, ↓e_qand, ↓e_qor, ↓e_qyes, ↓e_if, ↓e_not, ↓e_and, ↓e_or, ↓e_neg, ↓e_chain, ↓e_call, ↓e_no, ↓e_part, ↓e_sl, ↓e_slC, ↓e_fn, ↓e_fn0, ↓e_fnK, ↓e_m0, ↓e_m, ↓e_frz, ↓e_fz, ↓e_app, ↓e_lc, ↓e_esc, ↓e_next, ↓e_seq, ↓e_ret, ↓e_retN, ↓e_drop, ↓e_set, ↓e_ifS, ↓e_brk, ↓e_cnt, ↓e_par, ↓e_aug, ↓e_setIx, ↓e_for, ↓e_unp, ↓e_nm, ↓e_tgt, ↓e_iLst, ↓e_iTp, ↓e_iStr, ↓e_iR1, ↓isR1_s, ↓e_iR2, ↓isR2_s, ↓e_iEn, ↓isEn_s, ↓e_iEnS, ↓isEnS_s, ↓r_addI, ↓r_addS, ↓r_addT, ↓r_addL, ↓r_iaddI, ↓r_iaddS, ↓r_sub, ↓r_mulI, ↓r_mulL, ↓r_mod, ↓r_fdiv, ↓r_pow, ↓r_ordI, ↓r_ordS, ↓r_is, ↓r_inS, ↓r_ixS, ↓r_ixL, ↓r_ixR, ↓r_ixT, ↓r_ixC, ↓r_slS, ↓r_slT, ↓r_slL, ↓r_slR, ↓r_lenS, ↓r_lenL, ↓r_lenT, ↓r_lenR, ↓r_abs, ↓r_max, ↓r_min, ↓r_intI, ↓r_intB, ↓r_ord, ↓r_listL, ↓r_listT, ↓r_tupL, ↓r_tupT, ↓r_split, ↓r_part, ↓r_join, ↓r_joinC, ↓r_starts, ↓r_ends, ↓r_lower, ↓r_upper, ↓r_rfind, ↓r_index, ↓r_all, ↓r_any, ↓r_sum, ↓r_hex, ↓r_isi, ↓r_eqS, ↓r_neS, ↓r_eqI, ↓r_neI, ↓r_eqB, ↓r_neB, ↓r_eqL, ↓r_neL, ↓r_eqL0, ↓r_neL0, ↓t_s, ↓r_eq00, ↓r_ne00, ↓gets_s, ↓gets_n, ↓onS_s, ↓onI_s, ↓onC_s, ↓onB_s, ↓onL_s, ↓thenP_t, ↓ifI_t, ↓ifI_f, ifI_t, ifI_f, gets_s, gets_n, onS_s, onI_s, onC_s, onB_s, onL_s, thenP_t, gets_if, endG_rt, endG_rz, endG_nx, endN_rt, has_ls1, has_ls2, startG, wipeG, setAll, cut_from1, cut_init, atI_0, atI_1, atI_2, atI_last, List.map_cons, List.map_nil, List.cons_append, List.nil_append, List.append_nil, List.replicate, List.getElem?_cons_zero, List.getElem?_cons_succ, List.getElem?_nil, List.set_cons_zero, List.set_cons_succ, List.length_cons, List.length_nil, List.length_map, List.length_append, Nat.zero_add, Nat.sub_zero, Nat.reduceSub, Nat.reduceAdd, Nat.reduceLeDiff, List.isEmpty_cons, List.isEmpty_nil, true_and, and_true, if_true, if_false, reduceIte, Bool.not_true, Bool.not_false, Bool.not_not, Bool.false_eq_true, reduceCtorEq, List.forall_mem_cons, List.forall_mem_nil, implies_true, List.mem_singleton, decide_eq_true_eq, Bool.not_eq_true', decide_eq_false_iff_not, okM0_iff, okM1c, List.take_zero, List.take_succ_cons, gr_str_iff, gr_int_iff, gr_bl_iff, gr_non_iff, gr_lss_iff, gr_ls0_iff, lsOf_ls, lsOf_rl, lsOf_c, sqOf_ls, sqOf_rl, sqOf_tp, sqOf_c, lsOwn_ls, lsOwn_c, tpOf_tp, truD_ls, truD_rl, truD_tp, truD_bl, truD_int, truD_non, isNon, tyD, get_snoc, set_snoc, not_true_eq_false, not_false_eq_true, Option.some.injEq, Int.reduceLT, Int.reduceLE, Int.reduceNeg, Int.reducePow, Int.reduceToNat, and_self, atI_nat, inS_one, ↓e_tab, ↓r_isBl, ↓r_isiO, ↓e_prop, ↓e_mk, ↓e_mkL, ↓e_meth, ↓e_cval, ↓e_cm, ↓e_setF, ↓e_zp, ↓e_enSK, ↓e_par3, ↓r_find, ↓e_asg3, ↓e_dispC, ↓e_dtIx, ↓onDt_s, ↓e_get2, ↓e_tabG, ↓tabGI_s, ↓tabGI_n, ↓r_lstrip, ↓e_unpL])
local macro_rules | `(tactic| simp! [$xs,*]) => `(tactic| try simp only [↓e_while, ↓e_var, ↓e_c, ↓e_op, ↓e_nil, ↓e_cons, ↓e_tup, ↓e_lst, ↓e_lstC, ↓e_tru, ↓e_qnot, ↓e_qand, ↓e_qor, ↓e_qyes, ↓e_if, ↓e_not, ↓e_and, ↓e_or, ↓e_neg, ↓e_chain, ↓e_call, ↓e_no, ↓e_part, ↓e_sl, ↓e_slC, ↓e_fn, ↓e_fn0, ↓e_fnK, ↓e_m0, ↓e_m, ↓e_frz, ↓e_fz, ↓e_app, ↓e_lc, ↓e_esc, ↓e_next, ↓e_seq, ↓e_ret, ↓e_retN, ↓e_drop, ↓e_set, ↓e_ifS, ↓e_brk, ↓e_cnt, ↓e_par, ↓e_aug, ↓e_setIx, ↓e_for, ↓e_unp, ↓e_nm, ↓e_tgt, ↓e_iLst, ↓e_iTp, ↓e_iStr, ↓e_iR1, ↓isR1_s, ↓e_iR2, ↓isR2_s, ↓e_iEn, ↓isEn_s, ↓e_iEnS, ↓isEnS_s, ↓r_addI, ↓r_addS, ↓r_addT, ↓r_addL, ↓r_iaddI, ↓r_iaddS, ↓r_sub, ↓r_mulI, ↓r_mulL, ↓r_mod, ↓r_fdiv, ↓r_pow, ↓r_ordI, ↓r_ordS, ↓r_is, ↓r_inS, ↓r_ixS, ↓r_ixL, ↓r_ixR, ↓r_ixT, ↓r_ixC, ↓r_slS, ↓r_slT, ↓r_slL, ↓r_slR, ↓r_lenS, ↓r_lenL, ↓r_lenT, ↓r_lenR, ↓r_abs, ↓r_max, ↓r_min, ↓r_intI, ↓r_intB, ↓r_ord, ↓r_listL, ↓r_listT, ↓r_tupL, ↓r_tupT, ↓r_split, ↓r_part, ↓r_join, ↓r_joinC, ↓r_starts, ↓r_ends, ↓r_lower, ↓r_upper, ↓r_rfind, ↓r_index, ↓r_all, ↓r_any, ↓r_sum, ↓r_hex, ↓r_isi, ↓r_eqS, ↓r_neS, ↓r_eqI, ↓r_neI, ↓r_eqB, ↓r_neB, ↓r_eqL, ↓r_neL, ↓r_eqL0, ↓r_neL0, ↓t_s, ↓r_eq00, ↓r_ne00, ↓gets_s, ↓gets_n, ↓onS_s, ↓onI_s, ↓onC_s, ↓onB_s, ↓onL_s, ↓thenP_t, ↓ifI_t, ↓ifI_f, ifI_t, ifI_f, gets_s, gets_n, onS_s, onI_s, onC_s, onB_s, onL_s, thenP_t, gets_if, endG_rt, endG_rz, endG_nx, endN_rt, has_ls1, has_ls2, startG, wipeG, setAll, cut_from1, cut_init, atI_0, atI_1, atI_2, atI_last, List.map_cons, List.map_nil, List.cons_append, List.nil_append, List.append_nil, List.replicate, List.getElem?_cons_zero, List.getElem?_cons_succ, List.getElem?_nil, List.set_cons_zero, List.set_cons_succ, List.length_cons, List.length_nil, List.length_map, List.length_append, Nat.zero_add, Nat.sub_zero, Nat.reduceSub, Nat.reduceAdd, Nat.reduceLeDiff, List.isEmpty_cons, List.isEmpty_nil, true_and, and_true, if_true, if_false, reduceIte, Bool.not_true, Bool.not_false, Bool.not_not, Bool.false_eq_true, reduceCtorEq, List.forall_mem_cons, List.forall_mem_nil, implies_true, List.mem_singleton, decide_eq_true_eq, Bool.not_eq_true', decide_eq_false_iff_not, okM0_iff, okM1c, List.take_zero, List.take_succ_cons, gr_str_iff, gr_int_iff, gr_bl_iff, gr_non_iff, gr_lss_iff, gr_ls0_iff, lsOf_ls, lsOf_rl, lsOf_c, sqOf_ls, sqOf_rl, sqOf_tp, sqOf_c, lsOwn_ls, lsOwn_c, tpOf_tp, truD_ls, truD_rl, truD_tp, truD_bl, truD_int, truD_non, isNon, tyD, get_snoc, set_snoc, not_true_eq_false, not_false_eq_true, Option.some.injEq, Int.reduceLT, Int.reduceLE, Int.reduceNeg, Int.reducePow, Int.reduceToNat, and_self, atI_nat, inS_one, ↓e_tab, ↓r_isBl, ↓r_isiO, ↓e_prop, ↓e_mk, ↓e_mkL, ↓e_meth, ↓e_cval, ↓e_cm, ↓e_setF, ↓e_zp, ↓e_enSK, ↓e_par3, ↓r_find, ↓e_asg3, ↓e_dispC, ↓e_dtIx, ↓onDt_s, ↓e_get2, ↓e_tabG, ↓tabGI_s, ↓tabGI_n, ↓r_lstrip, ↓e_unpL, $xs,*])
/-! ### signs: right texts -/
theorem gr_ints_iff {l : List Int} : Gr (.ls (l.map .int)) ↔ True := iff_true_intro (gr_ls.mpr (gr_ints l))
theorem gr_rl_iff {l : List Int} : Gr (.rl (l.map .int)) ↔ True := iff_true_intro (gr_ls.mpr (gr_ints l))
theorem gr_tpc_iff {d : D} {l : List D} : Gr (.tp (d :: l)) ↔ Gr d ∧ Gr (.tp l) := by rw [gr_tp, gr_tp, List.forall_mem_cons]
theorem gr_tp0_iff : Gr (.tp []) ↔ True := iff_true_intro (gr_tp.mpr fun _ h => nomatch h)
theorem gr_lsc_iff {d : D} {l : List D} : Gr (.ls (d :: l)) ↔ Gr d ∧ Gr (.ls l) := by rw [gr_ls, gr_ls, List.forall_mem_cons]
theorem gr_opt (o : Option Tx) : Gr (optD o) := by cases o <;> first | trivial | exact (gr_str_iff).mpr trivial
theorem gr_opt_iff {o : Option Tx} : Gr (optD o) ↔ True := iff_true_intro (gr_opt o)
/-- a unit of a right text: an allowed sign, or a whole escape -/
def UnitOk (A : Tx) (u : Tx) : Prop := (∃ c, u = [c] ∧ c ∈ A) ∨ ∃ a b, u = [94, a, b] ∧ isHexB a = true ∧ isHexB b = true
def RtA (A : Tx) (t : Tx) : Prop := ∃ us : List Tx, (∀ u ∈ us, UnitOk A u) ∧ t = us.flatten
/-- the same by a plain test -/
def rtB (A : Tx) : Tx → Bool
  | [] => true
  | 94 :: a :: b :: r => (A.contains 94 && rtB A (a :: b :: r)) || (isHexB a && isHexB b && rtB A r)
  | c :: r => A.contains c && rtB A r
theorem rtB_ok {A : Tx} : ∀ (n : Nat) {t : Tx}, t.length ≤ n → rtB A t = true → RtA A t
  | n, [], _, _ => ⟨[], (fun _ h => nomatch h), rfl⟩
  | 0, c :: r, hn, _ => by simp at hn
  | n + 1, c :: r, hn, h => by
    have one : A.contains c = true → rtB A r = true → RtA A (c :: r) := fun h1 h2 => by
      obtain ⟨us, hu, rfl⟩ := rtB_ok n (by simpa using hn) h2
      exact ⟨[c] :: us, fun u hm => by
        rcases List.mem_cons.mp hm with q | q
        · exact .inl ⟨c, q, by simpa using h1⟩
        · exact hu u q, rfl⟩
    unfold rtB at h
    split at h
    · rename_i e; cases e
    · rename_i a b r' e
      obtain ⟨rfl, rfl⟩ := List.cons.inj e
      rcases Bool.or_eq_true_iff.mp h with h | h
      · rw [Bool.and_eq_true] at h
        exact one h.1 h.2
      · rw [Bool.and_eq_true, Bool.and_eq_true] at h
        obtain ⟨us, hu, q⟩ := rtB_ok n (t := r') (by simp at hn; omega) h.2
        exact ⟨[94, a, b] :: us, fun u hm => by
          rcases List.mem_cons.mp hm with q | q
          · exact .inr ⟨a, b, q, h.1.1, h.1.2⟩
          · exact hu u q, by rw [q]; rfl⟩
    · rename_i e
      obtain ⟨rfl, rfl⟩ := List.cons.inj e
      rw [Bool.and_eq_true] at h
      exact one h.1 h.2
theorem rtA_of {A t : Tx} (h : rtB A t = true) : RtA A t := rtB_ok _ (Nat.le_refl _) h
theorem RtA.app {A s t : Tx} (h : RtA A s) (g : RtA A t) : RtA A (s ++ t) := by
  obtain ⟨us, hu, rfl⟩ := h
  obtain ⟨vs, hv, rfl⟩ := g
  exact ⟨us ++ vs, fun u hm => (List.mem_append.mp hm).elim (hu u) (hv u), by simp⟩
theorem RtA.nil {A : Tx} : RtA A [] := ⟨[], (fun _ h => nomatch h), rfl⟩
theorem RtA.one {A : Tx} {c : Nat} (h : c ∈ A) : RtA A [c] := ⟨[[c]], fun u hu => .inl ⟨c, List.mem_singleton.mp hu, h⟩, rfl⟩
theorem RtA.cons {A t : Tx} {c : Nat} (h : c ∈ A) (g : RtA A t) : RtA A (c :: t) := (RtA.one h).app g
theorem RtA.jn {A : Tx} {c : Nat} (hc : c ∈ A) : ∀ {l : List Tx}, (∀ s ∈ l, RtA A s) → RtA A (jn [c] l)
  | [], _ => .nil
  | [a], h => h a List.mem_cons_self
  | a :: b :: r, h => ((h a List.mem_cons_self).app (.one hc)).app (RtA.jn hc fun s hs => h s (List.mem_cons_of_mem _ hs))
/-- cut at a sign that stands in no escape -/
theorem RtA.spC {A : Tx} {c : Nat} (hc : isHexB c = false) (h94 : c ≠ 94) {t : Tx} (h : RtA A t) : ∀ s ∈ spC c t, RtA A s := by
  obtain ⟨us, hu, rfl⟩ := h
  induction us with
  | nil =>
    intro s hs
    rw [List.mem_singleton.mp hs]
    exact .nil
  | cons u us ih =>
    have ih := ih fun v hv => hu v (List.mem_cons_of_mem _ hv)
    have add : ∀ (u : Tx), c ∉ u → RtA A u → ∀ s ∈ L3.spC c (u ++ us.flatten), RtA A s := by
      intro u hn hr
      cases e : L3.spC c us.flatten with
      | nil => exact absurd e (spC_ne c _)
      | cons a b =>
        have e2 : L3.spC c (u ++ us.flatten) = (u ++ a) :: b := by
          clear hr
          induction u with
          | nil => exact e
          | cons x u ih2 =>
            have := ih2 fun z => hn (List.mem_cons_of_mem _ z)
            exact spC_miss (fun z => hn (by rw [z]; exact List.mem_cons_self)) this
        rw [e2]
        rw [e] at ih
        intro s hs
        rcases List.mem_cons.mp hs with q | q
        · rw [q]; exact hr.app (ih a List.mem_cons_self)
        · exact ih s (List.mem_cons_of_mem _ q)
    rcases hu u List.mem_cons_self with ⟨x, rfl, hx⟩ | ⟨a, b, rfl, ha, hb⟩
    · by_cases hxc : x = c
      · intro s hs
        have e2 : L3.spC c ([x] ++ us.flatten) = [] :: L3.spC c us.flatten := spC_hit _ hxc
        have hs : s ∈ L3.spC c ([x] ++ us.flatten) := hs
        rw [e2] at hs
        rcases List.mem_cons.mp hs with q | q
        · rw [q]; exact .nil
        · exact ih s q
      · exact add [x] (fun z => hxc (List.mem_singleton.mp z).symm) (.one hx)
    · refine add [94, a, b] (fun z => ?_) ⟨[[94, a, b]], fun v hv => .inr ⟨a, b, List.mem_singleton.mp hv, ha, hb⟩, by simp⟩
      simp only [List.mem_cons, List.not_mem_nil, or_false] at z
      rcases z with z | z | z
      · exact h94 z
      · rw [z, ha] at hc; cases hc
      · rw [z, hb] at hc; cases hc
/-! ### first_wrong -/
theorem while_ind {c : DT} {s : DS} {E : DEnds} {Γ : G} {M : MM} (P : Nat → G → MM → Prop) (m : Nat) (h0 : P m Γ M)
    (h1 : ∀ m Γ M (N : G → MM → Prop), (∀ m' Γ' M', m' < m → P m' Γ' M' → N Γ' M') → P m Γ M → c Γ M (fun b M1 => if b = true then s { E with nx := N, ct := N, bk := E.nx } Γ M1 else E.nx Γ M1) E.rz) : dWhile c s E Γ M :=
  ⟨P, ⟨m, h0⟩, fun m Γ M p => h1 m Γ M _ (fun m' Γ' M' hm hp => ⟨m', hm, hp⟩) p⟩
def sp_p_first_wrong : DSpec := fun ds M K _ => ∃ (t A : Tx), ds = [.str t, .str A] ∧ M = [] ∧ t.length ≤ 10000 ∧ A.length ≤ 1000 ∧ 94 ∉ A ∧ RtA A t ∧ K .non []
def lb0_p_first_wrong : DS :=
  (dIfS (qTru (dOp (rInD false) (dOp rIxD (dVar 0) (dVar 2)) (dVar 1)))
    (dAug 2 rIAddD (dC (.int 1)))
    (dIfS (qTru (dOp (rEqD' true) (dOp rIxD (dVar 0) (dVar 2)) (dC (.str [94]))))
    (dRet (dTup (aCons (dC (.str [115, 105, 103, 110])) (aCons (dVar 2) aNil))))
    (dIfS (qTru (dFn (cPure sp_p_is_escape_at) [] (aCons (dVar 0) (aCons (dVar 2) aNil))))
    (dAug 2 rIAddD (dC (.int 3)))
    (dRet (dTup (aCons (dC (.str [101, 115, 99, 97, 112, 101])) (aCons (dVar 2) aNil)))))))
def rd_p_first_wrong : DS :=
  (dSeq (dSet 2 (dC (.int 0)))
    (dSeq (dWhile (qTru (dOp rLtD (dVar 2) (dCall rLen (aCons (dVar 0) aNil)))) lb0_p_first_wrong)
    (dRet (dC .non))))
theorem sem_p_first_wrong (ds : List D) (M : MM) (K0 : Kd) (R0 : Kx) (h : sp_p_first_wrong ds M K0 R0) : rd_p_first_wrong (endG M.length K0 R0) (startG 3 ds) M := by
  obtain ⟨t, A, rfl, rfl, ht, hA, h94, ⟨us, hu, rfl⟩, k⟩ := h
  unfold rd_p_first_wrong
  simp!
  refine while_ind (P := fun m Γ M => ∃ pre post, M = [] ∧ us = pre ++ post ∧ m = post.length ∧ Γ = [some (.str us.flatten), some (.str A), some (.int (pre.flatten.length : Nat))]) us.length ⟨[], us, rfl, rfl, rfl, rfl⟩ ?_
  rintro m Γ M N hN ⟨pre, post, rfl, e, rfl, rfl⟩
  simp!
  have el : us.flatten = pre.flatten ++ post.flatten := by rw [e, List.flatten_append]
  have el2 := congrArg List.length el
  rw [List.length_append] at el2
  refine ⟨by omega, ?_⟩
  simp!
  cases post with
  | nil =>
    have q : us.flatten.length = pre.flatten.length := by rw [el2]; rfl
    rw [q, if_neg (by omega)]
    exact k
  | cons u post =>
    have hu' := hu u (by rw [e]; simp)
    have hlt : pre.flatten.length < us.flatten.length := by
      have : ((u :: post) : List Tx).flatten.length ≠ 0 := by
        rcases hu' with ⟨c, rfl, hc⟩ | ⟨a, b, rfl, ha, hb⟩ <;> simp
      omega
    have d1 : us.flatten.drop pre.flatten.length = u ++ post.flatten := by
      rw [el, List.drop_left]
      rfl
    have go : ∀ x : Int, x = ((pre.flatten.length + u.length : Nat) : Int) → N [some (.str us.flatten), some (.str A), some (.int x)] [] := fun x hx => hN post.length _ _ (by simp) ⟨pre ++ [u], post, rfl, by rw [e]; simp, rfl, by rw [hx, List.flatten_append, List.length_append]; simp⟩
    rw [if_pos (by omega)]
    unfold lb0_p_first_wrong
    simp!
    have g0 : us.flatten[pre.flatten.length]? = (u ++ post.flatten)[0]? := by rw [← d1, List.getElem?_drop]; rfl
    refine ⟨by omega, ?_⟩
    simp!
    rcases hu' with ⟨c, rfl, hc⟩ | ⟨a, b, rfl, ha, hb⟩
    · refine gets_i g0 ?_
      simp!
      rw [ifI_p hc]
      simp!
      exact go _ (by simp)
    · refine gets_i g0 ?_
      simp!
      rw [ifI_m h94]
      simp!
      refine ⟨by omega, ?_⟩
      simp!
      refine gets_i g0 ?_
      simp!
      have hx : escAt us.flatten pre.flatten.length = true := by
        unfold escAt
        have d2 : us.flatten.drop (pre.flatten.length + 1) = a :: b :: post.flatten := by
          rw [← List.drop_drop, d1]
          rfl
        rw [d1, d2]
        simp [ha, hb]
      refine ⟨(by simp only [List.forall_mem_cons, List.forall_mem_nil, List.mem_singleton, forall_eq, implies_true, and_true, true_and, gr_str_iff, gr_int_iff, gr_bl_iff, gr_non_iff, gr_lss_iff, gr_ls0_iff, gr_opt_iff, gr_ints_iff, gr_rl_iff, gr_tpc_iff, gr_lsc_iff]), us.flatten, pre.flatten.length, rfl, rfl, by omega, ?_⟩
      rw [hx]
      simp!
      exact go _ (by simp)
/-! ### wrong_in_scheme -/
theorem enS_nil (k : Nat) : enS k [] = [] := rfl
theorem enS_cons (k c : Nat) (l : Tx) : enS k (c :: l) = .tp [.int (k : Nat), .str [c]] :: enS (k + 1) l := by
  unfold enS
  rw [List.mapIdx_cons]
  congr 1
  congr 1
  funext i d
  rw [show k + (i + 1) = k + 1 + i from by omega]
theorem for_enS {chk : MM → Prop} {tg : Tgt} {body : DS} {E : DEnds} {P : Nat → Tx → G → MM → Prop} (t : Tx) (k : Nat) {Γ : G} {M : MM} (h0 : ∀ n Γ M, P n [] Γ M → chk M ∧ E.nx Γ M)
    (h1 : ∀ n c r Γ M (N : G → MM → Prop), c ∈ t → (∀ Γ' M', P (n + 1) r Γ' M' → N Γ' M') → P n (c :: r) Γ M → chk M ∧ tg.d (.tp [.int (n : Nat), .str [c]]) Γ fun Γ' => body { E with nx := N, ct := N, bk := E.nx } Γ' M)
    (s : P k t Γ M) : forD chk tg body E (enS k t) Γ M := by
  refine for_ind (P := fun l Γ M => ∃ n r, l = enS n r ∧ (∀ c ∈ r, c ∈ t) ∧ P n r Γ M) ?_ ?_ _ _ _ ⟨k, t, rfl, fun _ h => h, s⟩
  · rintro Γ M ⟨n, r, e, _, p⟩
    cases r with
    | nil => exact h0 n Γ M p
    | cons c r => rw [enS_cons] at e; cases e
  · rintro d l Γ M N hN ⟨n, r, e, hr, p⟩
    cases r with
    | nil => cases e
    | cons c r =>
      rw [enS_cons] at e
      cases e
      exact h1 n c r Γ M N (hr c List.mem_cons_self) (fun Γ' M' q => hN _ _ ⟨n + 1, r, rfl, fun c hc => hr c (List.mem_cons_of_mem _ hc), q⟩) p
abbrev letterS : Tx := [65, 66, 67, 68, 69, 70, 71, 72, 73, 74, 75, 76, 77, 78, 79, 80, 81, 82, 83, 84, 85, 86, 87, 88, 89, 90, 97, 98, 99, 100, 101, 102, 103, 104, 105, 106, 107, 108, 109, 110, 111, 112, 113, 114, 115, 116, 117, 118, 119, 120, 121, 122]
abbrev schemeS : Tx := [65, 66, 67, 68, 69, 70, 71, 72, 73, 74, 75, 76, 77, 78, 79, 80, 81, 82, 83, 84, 85, 86, 87, 88, 89, 90, 97, 98, 99, 100, 101, 102, 103, 104, 105, 106, 107, 108, 109, 110, 111, 112, 113, 114, 115, 116, 117, 118, 119, 120, 121, 122, 48, 49, 50, 51, 52, 53, 54, 55, 56, 57, 43, 45, 46]
abbrev digitS : Tx := [48, 49, 50, 51, 52, 53, 54, 55, 56, 57]
abbrev bracketS : Tx := [48, 49, 50, 51, 52, 53, 54, 55, 56, 57, 65, 66, 67, 68, 69, 70, 97, 98, 99, 100, 101, 102, 58, 46]
abbrev hostS : Tx := [45, 46, 48, 49, 50, 51, 52, 53, 54, 55, 56, 57, 65, 66, 67, 68, 69, 70, 71, 72, 73, 74, 75, 76, 77, 78, 79, 80, 81, 82, 83, 84, 85, 86, 87, 88, 89, 90, 95, 97, 98, 99, 100, 101, 102, 103, 104, 105, 106, 107, 108, 109, 110, 111, 112, 113, 114, 115, 116, 117, 118, 119, 120, 121, 122, 126, 33, 36, 38, 39, 40, 41, 42, 43, 44, 59, 61]
abbrev userS : Tx := hostS ++ [58]
abbrev pathS : Tx := hostS ++ [58, 64, 47]
abbrev tailS : Tx := pathS ++ [63]
def SchemeOk (t : Tx) : Prop := t.length ≤ 1000 ∧ (∀ c ∈ t, c ∈ schemeS) ∧ ∃ c r, t = c :: r ∧ c ∈ letterS
def sp_p_wrong_in_scheme : DSpec := fun ds M K _ => ∃ t : Tx, ds = [.str t] ∧ M = [] ∧ SchemeOk t ∧ K .non []
def lb0_p_wrong_in_scheme : DS :=
  (dIfS (qOr (qTru (dOp (rInD true) (dVar 2) (dC (.str [65, 66, 67, 68, 69, 70, 71, 72, 73, 74, 75, 76, 77, 78, 79, 80, 81, 82, 83, 84, 85, 86, 87, 88, 89, 90, 97, 98, 99, 100, 101, 102, 103, 104, 105, 106, 107, 108, 109, 110, 111, 112, 113, 114, 115, 116, 117, 118, 119, 120, 121, 122, 48, 49, 50, 51, 52, 53, 54, 55, 56, 57, 43, 45, 46])))) (qAnd (qTru (dOp (rEqD' false) (dVar 1) (dC (.int 0)))) (qTru (dOp (rInD true) (dVar 2) (dC (.str [65, 66, 67, 68, 69, 70, 71, 72, 73, 74, 75, 76, 77, 78, 79, 80, 81, 82, 83, 84, 85, 86, 87, 88, 89, 90, 97, 98, 99, 100, 101, 102, 103, 104, 105, 106, 107, 108, 109, 110, 111, 112, 113, 114, 115, 116, 117, 118, 119, 120, 121, 122]))))))
    (dRet (dVar 1))
    dNext)
def rd_p_wrong_in_scheme : DS :=
  (dSeq (dFor (iEnS (aCons (dVar 0) aNil)) (Tgt.tup [1, 2]) lb0_p_wrong_in_scheme)
    (dRet (dIf (qTru (dOp (rEqD' false) (dVar 0) (dC (.str [])))) (dC (.int 0)) (dC .non))))
theorem sem_p_wrong_in_scheme (ds : List D) (M : MM) (K0 : Kd) (R0 : Kx) (h : sp_p_wrong_in_scheme ds M K0 R0) : rd_p_wrong_in_scheme (endG M.length K0 R0) (startG 3 ds) M := by
  obtain ⟨t, rfl, rfl, ⟨hl, hs, c0, r0, e0, hc0⟩, k⟩ := h
  unfold rd_p_wrong_in_scheme
  simp!
  refine for_enS (P := fun n r Γ M => M = [] ∧ t.drop n = r ∧ ∃ o1 o2, Γ = [some (.str t), o1, o2]) t 0 ?_ ?_ ⟨rfl, rfl, none, none, rfl⟩
  · rintro n Γ M ⟨rfl, _, o1, o2, rfl⟩
    refine ⟨trivial, ?_⟩
    dsimp only
    simp!
    rw [e0]
    simp!
    exact k
  · rintro n c r Γ M N hc hN ⟨rfl, hd, o1, o2, rfl⟩
    refine ⟨trivial, ?_⟩
    unfold lb0_p_wrong_in_scheme
    simp!
    have h1 : c ∈ schemeS := hs c hc
    have go : N [some (.str t), some (.int (n : Nat)), some (.str [c])] [] := hN _ _ ⟨rfl, by rw [← List.drop_drop, hd]; rfl, _, _, rfl⟩
    rw [ifI_m (fun z => z h1)]
    simp!
    refine ifI_i (fun z => ?_) fun z => ?_
    · have hn : n = 0 := by omega
      subst hn
      rw [List.drop_zero, e0] at hd
      obtain ⟨rfl, rfl⟩ := List.cons.inj hd
      simp!
      rw [ifI_m (fun z => z hc0)]
      simp!
      exact go
    · simp!
      exact go
/-! ### wrong_in_port -/
def PortOk (t : Tx) : Prop := t.length ≤ 5 ∧ (∀ c ∈ t, c ∈ digitS) ∧ (t.length = 5 → ∃ n : Int, PySem.intText? (SS t) = some n ∧ n ≤ 65535)
def sp_p_wrong_in_port : DSpec := fun ds M K _ => ∃ t : Tx, ds = [.str t] ∧ M = [] ∧ PortOk t ∧ K .non []
def lb0_p_wrong_in_port : DS :=
  (dIfS (qOr (qTru (dOp (rInD true) (dVar 3) (dC (.str [48, 49, 50, 51, 52, 53, 54, 55, 56, 57])))) (qTru (dOp (rEqD' false) (dVar 2) (dC (.int 5)))))
    (dRet (dVar 2))
    dNext)
def rd_p_wrong_in_port : DS :=
  (dSeq (dSet 1 (dSl (dVar 0) dNo (dPart (dC (.int 5)))))
    (dSeq (dIfS (qAnd (qTru (dOp (rEqD' false) (dCall rLen (aCons (dVar 1) aNil)) (dC (.int 5)))) (qAnd (qTru (dCall rAllD (aCons (dLc (iStr' (dVar 1)) (Tgt.nm 3) qYes (dOp (rInD false) (dVar 3) (dC (.str [48, 49, 50, 51, 52, 53, 54, 55, 56, 57]))) [3]) aNil))) (qTru (dOp rGtD (dCall rIntS (aCons (dVar 1) aNil)) (dC (.int 65535))))))
    (dRet (dC (.int 0)))
    dNext)
    (dSeq (dFor (iEnS (aCons (dVar 0) aNil)) (Tgt.tup [2, 3]) lb0_p_wrong_in_port)
    (dRet (dC .non)))))
theorem sem_p_wrong_in_port (ds : List D) (M : MM) (K0 : Kd) (R0 : Kx) (h : sp_p_wrong_in_port ds M K0 R0) : rd_p_wrong_in_port (endG M.length K0 R0) (startG 4 ds) M := by
  obtain ⟨t, rfl, rfl, ⟨hl, hs, h5⟩, k⟩ := h
  unfold rd_p_wrong_in_port
  have e5 : cut t none (some 5) = t := by
    have := cut_to t 5
    rw [show ((5 : Nat) : Int) = 5 from rfl] at this
    rw [this, List.take_of_length_le (by omega)]
  refine seq_g fun N hN => ?_
  simp!
  refine ⟨by omega, ?_⟩
  simp! [e5]
  rw [hN]
  refine seq_g fun N2 hN2 => ?_
  suffices g : N2 [some (.str t), some (.str t), none, none] [] by
    simp!
    refine ⟨by omega, ?_⟩
    simp!
    by_cases h : t.length = 5
    · obtain ⟨n, hn, h6⟩ := h5 h
      rw [ifI_p (by omega)]
      simp!
      refine comp_map (enc := fun c => .str [c]) (g := fun _ => .bl true) t (by first | trivial | rfl) (by omega) (fun c hc Y hY => ?_) ?_
      · simp!
        rw [decide_eq_true (hs c hc)]
        exact hY
      · have e : t.map (fun _ => D.bl true) = (t.map fun _ => true).map .bl := by rw [List.map_map]; rfl
        rw [e]
        have e2 : (t.map fun _ => true).all id = true := by simp
        simp! [e2]
        refine r_intS hn (by omega) ?_
        simp!
        rw [ifI_m (by omega)]
        simp!
        exact g
    · rw [ifI_m (by omega)]
      simp!
      exact g
  rw [hN2]
  simp!
  refine for_enS (P := fun n r Γ M => M = [] ∧ t.drop n = r ∧ ∃ o1 o2, Γ = [some (.str t), some (.str t), o1, o2]) t 0 ?_ ?_ ⟨rfl, rfl, none, none, rfl⟩
  · rintro n Γ M ⟨rfl, _, o1, o2, rfl⟩
    refine ⟨trivial, ?_⟩
    dsimp only
    simp!
    exact k
  · rintro n c r Γ M N hc hN ⟨rfl, hd, o1, o2, rfl⟩
    refine ⟨trivial, ?_⟩
    unfold lb0_p_wrong_in_port
    simp!
    have go : N [some (.str t), some (.str t), some (.int (n : Nat)), some (.str [c])] [] := hN _ _ ⟨rfl, by rw [← List.drop_drop, hd]; rfl, _, _, rfl⟩
    have hn : n < t.length := by
      have := congrArg List.length hd
      simp at this
      omega
    rw [ifI_m (fun z => z (hs c hc))]
    simp!
    rw [ifI_m (by omega)]
    simp!
    exact go
/-! ### wrong_in_bracket -/
def BracketOk (t : Tx) : Prop := ∃ m : Tx, t = 91 :: (m ++ [93]) ∧ m ≠ [] ∧ m.length ≤ 1000 ∧ ∀ c ∈ m, c ∈ bracketS
def sp_p_wrong_in_bracket : DSpec := fun ds M K _ => ∃ t : Tx, ds = [.str t] ∧ M = [] ∧ BracketOk t ∧ K .non []
def lb0_p_wrong_in_bracket : DS :=
  (dSeq (dIfS (qAnd (qTru (dOp (rEqD' false) (dVar 2) (dC (.str [93])))) (qTru (dOp rGtD (dVar 1) (dC (.int 1)))))
    (dRet (dIf (qTru (dOp (rEqD' false) (dVar 1) (dOp rSubD (dCall rLen (aCons (dVar 0) aNil)) (dC (.int 1))))) (dC .non) (dOp rAddD (dVar 1) (dC (.int 1)))))
    dNext)
    (dIfS (qTru (dOp (rInD true) (dVar 2) (dC (.str [48, 49, 50, 51, 52, 53, 54, 55, 56, 57, 65, 66, 67, 68, 69, 70, 97, 98, 99, 100, 101, 102, 58, 46]))))
    (dRet (dVar 1))
    dNext))
def rd_p_wrong_in_bracket : DS :=
  (dSeq (dFor (iEnSK (aCons (dSl (dVar 0) (dPart (dC (.int 1))) dNo) aNil) (aCons (dC (.int 1)) aNil)) (Tgt.tup [1, 2]) lb0_p_wrong_in_bracket)
    (dRet (dCall rLen (aCons (dVar 0) aNil))))
theorem sem_p_wrong_in_bracket (ds : List D) (M : MM) (K0 : Kd) (R0 : Kx) (h : sp_p_wrong_in_bracket ds M K0 R0) : rd_p_wrong_in_bracket (endG M.length K0 R0) (startG 3 ds) M := by
  obtain ⟨t, rfl, rfl, ⟨m, rfl, hm, hl, hs⟩, k⟩ := h
  have hlen : (91 :: (m ++ [93])).length = m.length + 2 := by simp
  unfold rd_p_wrong_in_bracket
  simp!
  refine ⟨by omega, ?_⟩
  simp!
  have e1 : cut (91 :: (m ++ [93])) (some 1) none = m ++ [93] := cut_from1 _
  refine ⟨m ++ [93], 1, rfl, rfl, by decide, ?_⟩
  refine for_enS (P := fun n r Γ M => M = [] ∧ 1 ≤ n ∧ (m ++ [93]).drop (n - 1) = r ∧ r ≠ [] ∧ ∃ o1 o2, Γ = [some (.str (91 :: (m ++ [93]))), o1, o2]) (m ++ [93]) 1 ?_ ?_ ⟨rfl, Nat.le_refl _, rfl, by simp, none, none, rfl⟩
  · rintro n Γ M ⟨rfl, _, _, h, _⟩
    exact absurd rfl h
  · rintro n c r Γ M N hc hN ⟨rfl, h1, hd, _, o1, o2, rfl⟩
    refine ⟨trivial, ?_⟩
    unfold lb0_p_wrong_in_bracket
    simp!
    have hm0 : 1 ≤ m.length := by
      cases m with
      | nil => exact absurd rfl hm
      | cons => simp
    by_cases q : n - 1 < m.length
    · have d1 : (m ++ [93]).drop (n - 1) = m.drop (n - 1) ++ [93] := List.drop_append_of_le_length (by omega)
      have d2 : m.drop (n - 1) = m[n - 1] :: m.drop (n - 1 + 1) := List.drop_eq_getElem_cons q
      rw [d1, d2] at hd
      obtain ⟨rfl, rfl⟩ := List.cons.inj hd
      have hb := hs _ (List.getElem_mem q)
      have h93 : m[n - 1] ≠ 93 := fun z => by
        rw [z] at hb
        exact absurd hb (by decide)
      rw [ifI_m (fun z => h93 (List.cons.inj z).1)]
      simp!
      rw [ifI_m (fun z => z hb)]
      simp!
      refine hN _ _ ⟨rfl, by omega, ?_, by simp, _, _, rfl⟩
      rw [show n + 1 - 1 = n - 1 + 1 from by omega]
      exact List.drop_append_of_le_length (by omega)
    · have hle : n - 1 = m.length := by
        have := congrArg List.length hd
        rw [List.length_drop, List.length_append] at this
        simp at this
        omega
      rw [hle, List.drop_left] at hd
      obtain ⟨rfl, rfl⟩ := List.cons.inj hd
      rw [ifI_p rfl]
      simp!
      rw [ifI_p (by omega)]
      simp!
      refine ⟨by omega, ?_⟩
      simp!
      rw [ifI_p (by omega)]
      simp!
      exact k
/-! ### wrong_in_host -/
def HostOk (t : Tx) : Prop := t.length ≤ 1000 ∧ ((t.take 1 ≠ [91] ∧ RtA hostS t) ∨ BracketOk t)
def sp_p_wrong_in_host : DSpec := fun ds M K _ => ∃ t : Tx, ds = [.str t] ∧ M = [] ∧ HostOk t ∧ K .non []
def rd_p_wrong_in_host : DS :=
  (dSeq (dIfS (qTru (dOp (rEqD' true) (dSl (dVar 0) dNo (dPart (dC (.int 1)))) (dC (.str [91]))))
    (dRet (dFn (cPure sp_p_first_wrong) [] (aCons (dVar 0) (aCons (dC (.str [45, 46, 48, 49, 50, 51, 52, 53, 54, 55, 56, 57, 65, 66, 67, 68, 69, 70, 71, 72, 73, 74, 75, 76, 77, 78, 79, 80, 81, 82, 83, 84, 85, 86, 87, 88, 89, 90, 95, 97, 98, 99, 100, 101, 102, 103, 104, 105, 106, 107, 108, 109, 110, 111, 112, 113, 114, 115, 116, 117, 118, 119, 120, 121, 122, 126, 33, 36, 38, 39, 40, 41, 42, 43, 44, 59, 61])) aNil))))
    dNext)
    (dSeq (dSet 1 (dFn (cPure sp_p_wrong_in_bracket) [] (aCons (dVar 0) aNil)))
    (dRet (dIf (qTru (dOp (rIsN' false) (dVar 1) (dC .non))) (dC .non) (dTup (aCons (dC (.str [104, 111, 115, 116])) (aCons (dVar 1) aNil)))))))
theorem sem_p_wrong_in_host (ds : List D) (M : MM) (K0 : Kd) (R0 : Kx) (h : sp_p_wrong_in_host ds M K0 R0) : rd_p_wrong_in_host (endG M.length K0 R0) (startG 2 ds) M := by
  obtain ⟨t, rfl, rfl, ⟨hl, ht⟩, k⟩ := h
  unfold rd_p_wrong_in_host
  simp!
  refine ⟨by omega, ?_⟩
  simp! [cut_to1]
  rcases ht with ⟨h1, h2⟩ | hb
  · rw [ifI_p h1]
    simp!
    refine ⟨(by simp only [List.forall_mem_cons, List.forall_mem_nil, List.mem_singleton, forall_eq, implies_true, and_true, true_and, gr_str_iff, gr_int_iff, gr_bl_iff, gr_non_iff, gr_lss_iff, gr_ls0_iff, gr_opt_iff, gr_ints_iff, gr_rl_iff, gr_tpc_iff, gr_lsc_iff]), t, hostS, rfl, rfl, by omega, by decide, by decide, h2, ?_⟩
    simp!
    exact k
  · have hb' := hb
    obtain ⟨m, rfl, _⟩ := hb'
    rw [ifI_m (fun z => z rfl)]
    simp!
    refine ⟨(by simp only [List.forall_mem_cons, List.forall_mem_nil, List.mem_singleton, forall_eq, implies_true, and_true, true_and, gr_str_iff, gr_int_iff, gr_bl_iff, gr_non_iff, gr_lss_iff, gr_ls0_iff, gr_opt_iff, gr_ints_iff, gr_rl_iff, gr_tpc_iff, gr_lsc_iff]), _, rfl, rfl, hb, ?_⟩
    simp!
    exact k
/-! ### is_part -/
abbrev nScheme : Tx := [115, 99, 104, 101, 109, 101]
abbrev nUser : Tx := [117, 115, 101, 114]
abbrev nHost : Tx := [104, 111, 115, 116]
abbrev nPort : Tx := [112, 111, 114, 116]
abbrev nPath : Tx := [112, 97, 116, 104]
abbrev nQuery : Tx := [113, 117, 101, 114, 121]
abbrev nFrag : Tx := [102, 114, 97, 103, 109, 101, 110, 116]
def tab_ALLOWED : List (Tx × Tx) := [(nUser, [45, 46, 48, 49, 50, 51, 52, 53, 54, 55, 56, 57, 65, 66, 67, 68, 69, 70, 71, 72, 73, 74, 75, 76, 77, 78, 79, 80, 81, 82, 83, 84, 85, 86, 87, 88, 89, 90, 95, 97, 98, 99, 100, 101, 102, 103, 104, 105, 106, 107, 108, 109, 110, 111, 112, 113, 114, 115, 116, 117, 118, 119, 120, 121, 122, 126, 33, 36, 38, 39, 40, 41, 42, 43, 44, 59, 61, 58]), (nHost, hostS), (nPath, [45, 46, 48, 49, 50, 51, 52, 53, 54, 55, 56, 57, 65, 66, 67, 68, 69, 70, 71, 72, 73, 74, 75, 76, 77, 78, 79, 80, 81, 82, 83, 84, 85, 86, 87, 88, 89, 90, 95, 97, 98, 99, 100, 101, 102, 103, 104, 105, 106, 107, 108, 109, 110, 111, 112, 113, 114, 115, 116, 117, 118, 119, 120, 121, 122, 126, 33, 36, 38, 39, 40, 41, 42, 43, 44, 59, 61, 58, 64, 47]), (nQuery, tailS), (nFrag, tailS)]
/-- what a part may be -/
def PartOk (n t : Tx) : Prop := t.length ≤ 1000 ∧ ((n = nScheme ∧ SchemeOk t) ∨ (n = nPort ∧ PortOk t) ∨ (n = nHost ∧ HostOk t) ∨ (n = nUser ∧ RtA userS t) ∨ (n = nPath ∧ RtA pathS t) ∨ (n = nQuery ∧ RtA tailS t) ∨ (n = nFrag ∧ RtA tailS t))
def sp_p_is_part : DSpec := fun ds M K _ => ∃ (n : Tx) (o : Option Tx), n.length ≤ 10 ∧ ds = [.str n, optD o] ∧ M = [] ∧ (∀ t, o = some t → PartOk n t) ∧ K (.bl o.isSome) []
def rd_p_is_part : DS :=
  (dSeq (dIfS (qNot (qTru (dCall rIsiD (aCons (dVar 1) (aCons (dC (.ty "str")) aNil)))))
    (dRet (dC (.bl false)))
    dNext)
    (dSeq (dIfS (qTru (dOp (rEqD' false) (dVar 0) (dC (.str [115, 99, 104, 101, 109, 101]))))
    (dRet (dOp (rIsN' false) (dFn (cPure sp_p_wrong_in_scheme) [] (aCons (dVar 1) aNil)) (dC .non)))
    dNext)
    (dSeq (dIfS (qTru (dOp (rEqD' false) (dVar 0) (dC (.str [112, 111, 114, 116]))))
    (dRet (dOp (rIsN' false) (dFn (cPure sp_p_wrong_in_port) [] (aCons (dVar 1) aNil)) (dC .non)))
    dNext)
    (dRet (dOp (rIsN' false) (dIf (qTru (dOp (rEqD' false) (dVar 0) (dC (.str [104, 111, 115, 116])))) (dFn (cPure sp_p_wrong_in_host) [] (aCons (dVar 1) aNil)) (dFn (cPure sp_p_first_wrong) [] (aCons (dVar 1) (aCons (dTab tab_ALLOWED (dVar 0)) aNil)))) (dC .non))))))
theorem sem_p_is_part (ds : List D) (M : MM) (K0 : Kd) (R0 : Kx) (h : sp_p_is_part ds M K0 R0) : rd_p_is_part (endG M.length K0 R0) (startG 2 ds) M := by
  obtain ⟨n, o, hn, rfl, rfl, ho, k⟩ := h
  unfold rd_p_is_part
  cases o with
  | none =>
    simp! [optD]
    refine gets_i (a := false) rfl ?_
    simp!
    exact k
  | some t =>
    simp! [optD]
    refine gets_i (a := true) rfl ?_
    simp!
    obtain ⟨hl, ht⟩ := ho t rfl
    rcases ht with ⟨rfl, h⟩ | ⟨rfl, h⟩ | ⟨rfl, h⟩ | ⟨rfl, h⟩ | ⟨rfl, h⟩ | ⟨rfl, h⟩ | ⟨rfl, h⟩
    · simp!
      refine ⟨(by simp only [List.forall_mem_cons, List.forall_mem_nil, List.mem_singleton, forall_eq, implies_true, and_true, true_and, gr_str_iff, gr_int_iff, gr_bl_iff, gr_non_iff, gr_lss_iff, gr_ls0_iff, gr_opt_iff, gr_ints_iff, gr_rl_iff, gr_tpc_iff, gr_lsc_iff]), t, rfl, rfl, h, ?_⟩
      simp!
      exact k
    · simp!
      rw [ifI_m (by decide)]
      simp!
      refine ⟨(by simp only [List.forall_mem_cons, List.forall_mem_nil, List.mem_singleton, forall_eq, implies_true, and_true, true_and, gr_str_iff, gr_int_iff, gr_bl_iff, gr_non_iff, gr_lss_iff, gr_ls0_iff, gr_opt_iff, gr_ints_iff, gr_rl_iff, gr_tpc_iff, gr_lsc_iff]), t, rfl, rfl, h, ?_⟩
      simp!
      exact k
    · simp!
      rw [ifI_m (by decide)]
      simp!
      rw [ifI_m (by decide)]
      simp!
      refine ⟨(by simp only [List.forall_mem_cons, List.forall_mem_nil, List.mem_singleton, forall_eq, implies_true, and_true, true_and, gr_str_iff, gr_int_iff, gr_bl_iff, gr_non_iff, gr_lss_iff, gr_ls0_iff, gr_opt_iff, gr_ints_iff, gr_rl_iff, gr_tpc_iff, gr_lsc_iff]), t, rfl, rfl, h, ?_⟩
      simp!
      exact k
    · simp!
      rw [ifI_m (by decide)]
      simp!
      rw [ifI_m (by decide)]
      simp!
      rw [ifI_m (by decide)]
      simp!
      refine gets_i (a := userS) rfl ?_
      simp!
      refine ⟨(by simp only [List.forall_mem_cons, List.forall_mem_nil, List.mem_singleton, forall_eq, implies_true, and_true, true_and, gr_str_iff, gr_int_iff, gr_bl_iff, gr_non_iff, gr_lss_iff, gr_ls0_iff, gr_opt_iff, gr_ints_iff, gr_rl_iff, gr_tpc_iff, gr_lsc_iff]), t, userS, rfl, rfl, by omega, by decide, by decide, h, ?_⟩
      simp!
      exact k
    · simp!
      rw [ifI_m (by decide)]
      simp!
      rw [ifI_m (by decide)]
      simp!
      rw [ifI_m (by decide)]
      simp!
      refine gets_i (a := pathS) rfl ?_
      simp!
      refine ⟨(by simp only [List.forall_mem_cons, List.forall_mem_nil, List.mem_singleton, forall_eq, implies_true, and_true, true_and, gr_str_iff, gr_int_iff, gr_bl_iff, gr_non_iff, gr_lss_iff, gr_ls0_iff, gr_opt_iff, gr_ints_iff, gr_rl_iff, gr_tpc_iff, gr_lsc_iff]), t, pathS, rfl, rfl, by omega, by decide, by decide, h, ?_⟩
      simp!
      exact k
    · simp!
      rw [ifI_m (by decide)]
      simp!
      rw [ifI_m (by decide)]
      simp!
      rw [ifI_m (by decide)]
      simp!
      refine gets_i (a := tailS) rfl ?_
      simp!
      refine ⟨(by simp only [List.forall_mem_cons, List.forall_mem_nil, List.mem_singleton, forall_eq, implies_true, and_true, true_and, gr_str_iff, gr_int_iff, gr_bl_iff, gr_non_iff, gr_lss_iff, gr_ls0_iff, gr_opt_iff, gr_ints_iff, gr_rl_iff, gr_tpc_iff, gr_lsc_iff]), t, tailS, rfl, rfl, by omega, by decide, by decide, h, ?_⟩
      simp!
      exact k
    · simp!
      rw [ifI_m (by decide)]
      simp!
      rw [ifI_m (by decide)]
      simp!
      rw [ifI_m (by decide)]
      simp!
      refine gets_i (a := tailS) rfl ?_
      simp!
      refine ⟨(by simp only [List.forall_mem_cons, List.forall_mem_nil, List.mem_singleton, forall_eq, implies_true, and_true, true_and, gr_str_iff, gr_int_iff, gr_bl_iff, gr_non_iff, gr_lss_iff, gr_ls0_iff, gr_opt_iff, gr_ints_iff, gr_rl_iff, gr_tpc_iff, gr_lsc_iff]), t, tailS, rfl, rfl, by omega, by decide, by decide, h, ?_⟩
      simp!
      exact k
/-! ### is_path_possible -/
def pathPossB (s h : Option Tx) (p : Tx) : Bool := if h.isSome = true then (p.isEmpty || [47].isPrefixOf p) else !([47, 47].isPrefixOf p) && (s.isSome || !decide (58 ∈ (ptC 47 p).1))
def sp_p_is_path_possible : DSpec := fun ds M K _ => ∃ (s h : Option Tx) (p : Tx), ds = [optD s, optD h, .str p] ∧ M = [] ∧ p.length ≤ 10000 ∧ K (.bl (pathPossB s h p)) []
def rd_p_is_path_possible : DS :=
  (dSeq (dIfS (qTru (dOp (rIsN' true) (dVar 1) (dC .non)))
    (dRet (dOr (dOp (rEqD' false) (dVar 2) (dC (.str []))) (dM mStarts (dVar 2) (aCons (dC (.str [47])) aNil))))
    dNext)
    (dSeq (dIfS (qTru (dM mStarts (dVar 2) (aCons (dC (.str [47, 47])) aNil)))
    (dRet (dC (.bl false)))
    dNext)
    (dRet (dOr (dOp (rIsN' true) (dVar 0) (dC .non)) (dOp (rInD true) (dC (.str [58])) (dOp rIxD (dM mPart (dVar 2) (aCons (dC (.str [47])) aNil)) (dC (.int 0))))))))
theorem sem_p_is_path_possible (ds : List D) (M : MM) (K0 : Kd) (R0 : Kx) (h : sp_p_is_path_possible ds M K0 R0) : rd_p_is_path_possible (endG M.length K0 R0) (startG 3 ds) M := by
  obtain ⟨s, h, p, rfl, rfl, hp, k⟩ := h
  unfold rd_p_is_path_possible
  cases h with
  | some h =>
    simp! [optD]
    unfold pathPossB at k
    rw [if_pos (by rfl)] at k
    refine ifI_i (fun z => ?_) fun z => ?_
    · subst z
      simp!
      exact k
    · simp!
      have e : p.isEmpty = false := by
        cases p with
        | nil => exact absurd rfl z
        | cons => rfl
      rw [e, Bool.false_or] at k
      exact k
  | none =>
    simp! [optD]
    unfold pathPossB at k
    rw [if_neg (by decide)] at k
    refine ifI_i (fun z => ?_) fun z => ?_
    · simp!
      rw [z] at k
      exact k
    · simp!
      have e : [47, 47].isPrefixOf p = false := by
        cases q : [47, 47].isPrefixOf p with
        | true => exact absurd q z
        | false => rfl
      rw [e] at k
      cases s with
      | some s =>
        simp! [optD]
        exact k
      | none =>
        simp! [optD]
        refine ⟨by omega, ?_⟩
        simp!
        exact k
end L3

namespace L3
open PySem PySem.Spec PyProof.Rows L2 Evl
open Classical
local macro_rules | `(tactic| simp!) => `(tactic| try simp only [↓e_while, ↓e_var, ↓e_c, ↓e_op, ↓e_nil, ↓e_cons, ↓e_tup, ↓e_lst, ↓e_lstC, ↓e_tru, ↓e_qnot, ↓e_qand, ↓e_qor, ↓e_qyes, ↓e_if, ↓e_not, ↓e_and, ↓e_or, ↓e_neg, ↓e_chain, ↓e_call, ↓e_no, ↓e_part, ↓e_sl, ↓e_slC, ↓e_fn, ↓e_fn0, ↓e_fnK, ↓e_m0, ↓e_m, ↓e_frz, ↓e_fz, ↓e_app, ↓e_lc, ↓e_esc, ↓e_next, ↓e_seq, ↓e_ret, ↓e_retN, ↓e_drop, ↓e_set, ↓e_ifS, ↓e_brk, ↓e_cnt, ↓e_par, ↓e_aug, ↓e_setIx, ↓e_for, ↓e_unp, ↓e_nm, ↓e_tgt, ↓e_iLst, ↓e_iTp, ↓e_iStr, ↓e_iR1, ↓isR1_s, ↓e_iR2, ↓isR2_s, ↓e_iEn, ↓isEn_s, ↓e_iEnS, ↓isEnS_s, ↓r_addI, ↓r_addS, ↓r_addT, ↓r_addL, ↓r_iaddI, ↓r_iaddS, ↓r_sub, ↓r_mulI, ↓r_mulL, ↓r_mod, ↓r_fdiv, ↓r_pow, ↓r_ordI, ↓r_ordS, ↓r_is, ↓r_inS, ↓r_ixS, ↓r_ixL, ↓r_ixR, ↓r_ixT, ↓r_ixC, ↓r_slS, ↓r_slT, ↓r_slL, ↓r_slR, ↓r_lenS, ↓r_lenL, ↓r_lenT, ↓r_lenR, ↓r_abs, ↓r_max, ↓r_min, ↓r_intI, ↓r_intB, ↓r_ord, ↓r_listL, ↓r_listT, ↓r_tupL, ↓r_tupT, ↓r_split, ↓r_part, ↓r_join, ↓r_joinC, ↓r_starts, ↓r_ends, ↓r_lower, ↓r_upper, ↓r_rfind, ↓r_index, ↓r_all, ↓r_any, ↓r_sum, ↓r_hex, ↓r_isi, ↓r_eqS, ↓r_neS, ↓r_eqI, ↓r_neI, ↓r_eqB, ↓r_neB, ↓r_eqL, ↓r_neL, ↓r_eqL0, ↓r_neL0, ↓t_s, ↓r_eq00, ↓r_ne00, ↓gets_s, ↓gets_n, ↓onS_s, ↓onI_s, ↓onC_s, ↓onB_s, ↓onL_s, ↓thenP_t, ↓ifI_t, ↓ifI_f, ifI_t, ifI_f, gets_s, gets_n, onS_s, onI_s, onC_s, onB_s, onL_s, thenP_t, gets_if, endG_rt, endG_rz, endG_nx, endN_rt, has_ls1, has_ls2, startG, wipeG, setAll, cut_from1, cut_init, atI_0, atI_1, atI_2, atI_last, List.map_cons, List.map_nil, List.cons_append, List.nil_append, List.append_nil, List.replicate, List.getElem?_cons_zero, List.getElem?_cons_succ, List.getElem?_nil, List.set_cons_zero, List.set_cons_succ, List.length_cons, List.length_nil, List.length_map, List.length_append, Nat.zero_add, Nat.sub_zero, Nat.reduceSub, Nat.reduceAdd, Nat.reduceLeDiff, List.isEmpty_cons, List.isEmpty_nil, true_and, and_true, if_true, if_false, reduceIte, Bool.not_true, Bool.not_false, Bool.not_not, Bool.false_eq_true, reduceCtorEq, List.forall_mem_cons, List.forall_mem_nil, implies_true, List.mem_singleton, decide_eq_true_eq, Bool.not_eq_true', decide_eq_false_iff_not, okM0_iff, okM1c, List.take_zero, List.take_succ_cons, gr_str_iff, gr_int_iff, gr_bl_iff, gr_non_iff, gr_lss_iff, gr_ls0_iff, lsOf_ls, lsOf_rl, lsOf_c, sqOf_ls, sqOf_rl, sqOf_tp, sqOf_c, lsOwn_ls, lsOwn_c, tpOf_tp, truD_ls, truD_rl, truD_tp, truD_bl, truD_int, truD_non, isNon, tyD, get_snoc, set_snoc, not_true_eq_false, not_false_eq_true, Option.some.injEq, Int.reduceLT, Int.reduceLE, Int.reduceNeg, Int.reducePow, Int.reduceToNat, and_self, atI_nat, inS_one, ↓e_tab, ↓r_isBl, ↓r_isiO, ↓e_prop, ↓e_mk, ↓e_mkL, ↓e_meth, ↓e_cval, ↓e_cm, ↓e_setF, ↓e_zp, ↓e_enSK, ↓e_par3, ↓r_find, ↓e_asg3, ↓e_dispC, ↓e_dtIx, ↓onDt_s, ↓e_get2, ↓e_tabG, ↓tabGI_s, ↓tabGI_n, ↓r_lstrip, ↓e_unpL])
local macro_rules | `(tactic| simp! [$xs,*]) => `(tactic| try simp only [↓e_while, ↓e_var, ↓e_c, ↓e_op, ↓e_nil, ↓e_cons, ↓e_tup, ↓e_lst, ↓e_lstC, ↓e_tru, ↓e_qnot, ↓e_qand, ↓e_qor, ↓e_qyes, ↓e_if, ↓e_not, ↓e_and, ↓e_or, ↓e_neg, ↓e_chain, ↓e_call, ↓e_no, ↓e_part, ↓e_sl, ↓e_slC, ↓e_fn, ↓e_fn0, ↓e_fnK, ↓e_m0, ↓e_m, ↓e_frz, ↓e_fz, ↓e_app, ↓e_lc, ↓e_esc, ↓e_next, ↓e_seq, ↓e_ret, ↓e_retN, ↓e_drop, ↓e_set, ↓e_ifS, ↓e_brk, ↓e_cnt, ↓e_par, ↓e_aug, ↓e_setIx, ↓e_for, ↓e_unp, ↓e_nm, ↓e_tgt, ↓e_iLst, ↓e_iTp, ↓e_iStr, ↓e_iR1, ↓isR1_s, ↓e_iR2, ↓isR2_s, ↓e_iEn, ↓isEn_s, ↓e_iEnS, ↓isEnS_s, ↓r_addI, ↓r_addS, ↓r_addT, ↓r_addL, ↓r_iaddI, ↓r_iaddS, ↓r_sub, ↓r_mulI, ↓r_mulL, ↓r_mod, ↓r_fdiv, ↓r_pow, ↓r_ordI, ↓r_ordS, ↓r_is, ↓r_inS, ↓r_ixS, ↓r_ixL, ↓r_ixR, ↓r_ixT, ↓r_ixC, ↓r_slS, ↓r_slT, ↓r_slL, ↓r_slR, ↓r_lenS, ↓r_lenL, ↓r_lenT, ↓r_lenR, ↓r_abs, ↓r_max, ↓r_min, ↓r_intI, ↓r_intB, ↓r_ord, ↓r_listL, ↓r_listT, ↓r_tupL, ↓r_tupT, ↓r_split, ↓r_part, ↓r_join, ↓r_joinC, ↓r_starts, ↓r_ends, ↓r_lower, ↓r_upper, ↓r_rfind, ↓r_index, ↓r_all, ↓r_any, ↓r_sum, ↓r_hex, ↓r_isi, ↓r_eqS, ↓r_neS, ↓r_eqI, ↓r_neI, ↓r_eqB, ↓r_neB, ↓r_eqL, ↓r_neL, ↓r_eqL0, ↓r_neL0, ↓t_s, ↓r_eq00, ↓r_ne00, ↓gets_s, ↓gets_n, ↓onS_s, ↓onI_s, ↓onC_s, ↓onB_s, ↓onL_s, ↓thenP_t, ↓ifI_t, ↓ifI_f, ifI_t, ifI_f, gets_s, gets_n, onS_s, onI_s, onC_s, onB_s, onL_s, thenP_t, gets_if, endG_rt, endG_rz, endG_nx, endN_rt, has_ls1, has_ls2, startG, wipeG, setAll, cut_from1, cut_init, atI_0, atI_1, atI_2, atI_last, List.map_cons, List.map_nil, List.cons_append, List.nil_append, List.append_nil, List.replicate, List.getElem?_cons_zero, List.getElem?_cons_succ, List.getElem?_nil, List.set_cons_zero, List.set_cons_succ, List.length_cons, List.length_nil, List.length_map, List.length_append, Nat.zero_add, Nat.sub_zero, Nat.reduceSub, Nat.reduceAdd, Nat.reduceLeDiff, List.isEmpty_cons, List.isEmpty_nil, true_and, and_true, if_true, if_false, reduceIte, Bool.not_true, Bool.not_false, Bool.not_not, Bool.false_eq_true, reduceCtorEq, List.forall_mem_cons, List.forall_mem_nil, implies_true, List.mem_singleton, decide_eq_true_eq, Bool.not_eq_true', decide_eq_false_iff_not, okM0_iff, okM1c, List.take_zero, List.take_succ_cons, gr_str_iff, gr_int_iff, gr_bl_iff, gr_non_iff, gr_lss_iff, gr_ls0_iff, lsOf_ls, lsOf_rl, lsOf_c, sqOf_ls, sqOf_rl, sqOf_tp, sqOf_c, lsOwn_ls, lsOwn_c, tpOf_tp, truD_ls, truD_rl, truD_tp, truD_bl, truD_int, truD_non, isNon, tyD, get_snoc, set_snoc, not_true_eq_false, not_false_eq_true, Option.some.injEq, Int.reduceLT, Int.reduceLE, Int.reduceNeg, Int.reducePow, Int.reduceToNat, and_self, atI_nat, inS_one, ↓e_tab, ↓r_isBl, ↓r_isiO, ↓e_prop, ↓e_mk, ↓e_mkL, ↓e_meth, ↓e_cval, ↓e_cm, ↓e_setF, ↓e_zp, ↓e_enSK, ↓e_par3, ↓r_find, ↓e_asg3, ↓e_dispC, ↓e_dtIx, ↓onDt_s, ↓e_get2, ↓e_tabG, ↓tabGI_s, ↓tabGI_n, ↓r_lstrip, ↓e_unpL, $xs,*])
/-! ### urls -/
structure Ur where
  s : Option Tx
  u : Option Tx
  h : Option Tx
  p : Option Tx
  r : Tx
  q : Option Tx
  f : Option Tx
deriving DecidableEq
abbrev tpU (a : Ur) : D := .tp [optD a.s, optD a.u, optD a.h, optD a.p, .str a.r, optD a.q, optD a.f]
abbrev obU (a : Ur) : D := .ob "Url" ["every"] [tpU a]
theorem gr_tpU (a : Ur) : Gr (tpU a) := by
  rw [gr_tp]
  simp only [List.forall_mem_cons, gr_opt_iff, gr_str_iff, true_and]
  intro d hd
  exact absurd hd List.not_mem_nil
theorem gr_ob {c : Str} {ns : List Str} {l : List D} : Gr (.ob c ns l) ↔ ∀ d ∈ l, Gr d := by
  rw [← grL_iff]
  simp only [Gr]
theorem gr_obU (a : Ur) : Gr (obU a) := by
  rw [gr_ob]
  intro d hd
  rw [List.mem_singleton.mp hd]
  exact gr_tpU a
theorem gr_tpU_iff {a : Ur} : Gr (tpU a) ↔ True := iff_true_intro (gr_tpU a)
theorem gr_obU_iff {a : Ur} : Gr (obU a) ↔ True := iff_true_intro (gr_obU a)
theorem optD_inj {a b : Option Tx} (h : optD a = optD b) : a = b := by
  cases a <;> cases b <;> first | rfl | (unfold optD at h; cases h <;> rfl)
theorem nrm_opt (n : Nat) (o : Option Tx) : nrm n (optD o) = optD o := by
  cases o
  · exact nrm_non n
  · exact nrm_str n _
theorem pl_opt (n : Nat) (o : Option Tx) : Pl n (optD o) := by
  cases o
  · show Pl n .non
    rw [pl_non]; trivial
  · show Pl n (.str _)
    rw [pl_str]; trivial
theorem eq_U : EqOk 1 tpU := ⟨fun n hn a => by
    obtain ⟨n, rfl⟩ : ∃ m, n = m + 1 := ⟨n - 1, by omega⟩
    rw [pl_tp]
    intro d hd
    simp only [List.mem_cons, List.not_mem_nil, or_false] at hd
    rcases hd with q | q | q | q | q | q | q <;> rw [q] <;> first | exact pl_opt n _ | (rw [pl_str]; trivial), fun n hn a b e => by
    obtain ⟨n, rfl⟩ : ∃ m, n = m + 1 := ⟨n - 1, by omega⟩
    rw [nrm_tp, nrm_tp, D.tp.injEq] at e
    simp only [List.map_cons, List.map_nil, List.cons.injEq, and_true, nrm_opt, nrm_str, D.str.injEq] at e
    obtain ⟨e1, e2, e3, e4, e5, e6, e7⟩ := e
    obtain ⟨s, u, h, p, r, q, f⟩ := a
    obtain ⟨s', u', h', p', r', q', f'⟩ := b
    rw [show s = s' from optD_inj e1, show u = u' from optD_inj e2, show h = h' from optD_inj e3, show p = p' from optD_inj e4, show r = r' from e5, show q = q' from optD_inj e6, show f = f' from optD_inj e7], fun _ _ h => nomatch h⟩
theorem r_eqU {neg : Bool} {M : MM} {K : Kd} {a b : Ur} : opI (rEqD' neg) (tpU a) (tpU b) M (b := ⟨K⟩) = K (.bl (if neg then !decide (a = b) else decide (a = b))) M := propext (eq_U.eq (neg := neg))
theorem gr_cl_iff {c : Str} : Gr (.cl c) ↔ True := iff_true_intro (by simp only [Gr])
/-! fields at hand -/
def fldI (c f : Str) (d : D) (M : MM) [b : Box Kd] : Prop := match d with
  | .ob c' ns l => c' = c ∧ ∃ v, lkD f ns l = some v ∧ b.val v M
  | .cel k => ∃ ns l v, M[k]? = some (.ob c ns l) ∧ lkD f ns l = some v ∧ b.val v M
  | _ => False
theorem e_fldI {c f : Str} {t : DE} {Γ : G} {M : MM} {K : Kd} {R : Rx} : dFld c f t Γ M K R = t Γ M (fun d M1 => fldI c f d M1 (b := ⟨K⟩)) R := by
  unfold dFld
  congr
theorem r_fldU {a : Ur} {M : MM} {K : Kd} : fldI "Url" "every" (obU a) M (b := ⟨K⟩) = K (tpU a) M := propext ⟨fun ⟨_, v, e, k⟩ => by
  cases e
  exact k, fun k => ⟨rfl, _, rfl, k⟩⟩
theorem atI_3 {α : Type} {l : List α} : L2.atI l 3 = l[3]? := atI_nat l 3
theorem atI_4 {α : Type} {l : List α} : L2.atI l 4 = l[4]? := atI_nat l 4
theorem atI_5 {α : Type} {l : List α} : L2.atI l 5 = l[5]? := atI_nat l 5
theorem atI_6 {α : Type} {l : List α} : L2.atI l 6 = l[6]? := atI_nat l 6
theorem cut_t1 {α : Type} {l : List α} : cut l none (some 1) = l.take 1 := cut_to l 1
theorem cut_t2 {α : Type} {l : List α} : cut l none (some 2) = l.take 2 := cut_to l 2
theorem cut_t3 {α : Type} {l : List α} : cut l none (some 3) = l.take 3 := cut_to l 3
theorem cut_t4 {α : Type} {l : List α} : cut l none (some 4) = l.take 4 := cut_to l 4
theorem cut_t5 {α : Type} {l : List α} : cut l none (some 5) = l.take 5 := cut_to l 5
theorem cut_t6 {α : Type} {l : List α} : cut l none (some 6) = l.take 6 := cut_to l 6
/-! ### Url.__init__, the properties -/
def sp_Url___init__ : DSpec := fun ds M K _ => ∃ v, ds = [.cel 0, v] ∧ M = [.ob "Url" [] []] ∧ Gr v ∧ K .non [.ob "Url" ["every"] [v]]
def rd_Url___init__ : DS :=
  (dSetF "Url" "every" (dVar 0) (dVar 1))
theorem sem_Url___init__ (ds : List D) (M : MM) (K0 : Kd) (R0 : Kx) (h : sp_Url___init__ ds M K0 R0) : rd_Url___init__ (endG M.length K0 R0) (startG 2 ds) M := by
  obtain ⟨v, rfl, rfl, hv, k⟩ := h
  unfold rd_Url___init__
  simp!
  refine ⟨[], [], rfl, by decide, ?_⟩
  refine ⟨fun m hm => ?_, k⟩
  have e : m = .ob "Url" ["every"] [v] := List.mem_singleton.mp hm
  subst e
  intro d hd
  rw [List.mem_singleton.mp hd]
  exact hv
def spG (g : Ur → D) : DSpec := fun ds M K _ => ∃ a : Ur, ds = [obU a] ∧ M = [] ∧ K (g a) []
def sp_Url_scheme : DSpec := spG fun a => optD a.s
def sp_Url_user : DSpec := spG fun a => optD a.u
def sp_Url_host : DSpec := spG fun a => optD a.h
def sp_Url_port : DSpec := spG fun a => optD a.p
def sp_Url_path : DSpec := spG fun a => .str a.r
def sp_Url_query : DSpec := spG fun a => optD a.q
def sp_Url_fragment : DSpec := spG fun a => optD a.f
def isOpq (a : Ur) : Bool := a.s.isSome && (!a.h.isSome && ![47].isPrefixOf a.r)
def isBase (a : Ur) : Bool := a.s.isSome && !isOpq a
def sp_Url_has_authority : DSpec := spG fun a => .bl a.h.isSome
def sp_Url_is_opaque : DSpec := fun ds M K _ => ∃ a : Ur, ds = [obU a] ∧ M = [] ∧ a.r.length ≤ 10000 ∧ K (.bl (isOpq a)) []
def sp_Url_is_base : DSpec := fun ds M K _ => ∃ a : Ur, ds = [obU a] ∧ M = [] ∧ a.r.length ≤ 10000 ∧ K (.bl (isBase a)) []
theorem isN_opt {o : Option Tx} : isNon (optD o) = !o.isSome := by cases o <;> rfl
def rd_Url_scheme : DS :=
  (dRet (dOp rIxD (dFld "Url" "every" (dVar 0)) (dC (.int 0))))
theorem sem_Url_scheme (ds : List D) (M : MM) (K0 : Kd) (R0 : Kx) (h : sp_Url_scheme ds M K0 R0) : rd_Url_scheme (endG M.length K0 R0) (startG 1 ds) M := by
  obtain ⟨a, rfl, rfl, k⟩ := h
  unfold rd_Url_scheme
  simp! [e_fldI, r_fldU, atI_3, atI_4, atI_5, atI_6, gr_opt_iff]
  exact k
def rd_Url_user : DS :=
  (dRet (dOp rIxD (dFld "Url" "every" (dVar 0)) (dC (.int 1))))
theorem sem_Url_user (ds : List D) (M : MM) (K0 : Kd) (R0 : Kx) (h : sp_Url_user ds M K0 R0) : rd_Url_user (endG M.length K0 R0) (startG 1 ds) M := by
  obtain ⟨a, rfl, rfl, k⟩ := h
  unfold rd_Url_user
  simp! [e_fldI, r_fldU, atI_3, atI_4, atI_5, atI_6, gr_opt_iff]
  exact k
def rd_Url_host : DS :=
  (dRet (dOp rIxD (dFld "Url" "every" (dVar 0)) (dC (.int 2))))
theorem sem_Url_host (ds : List D) (M : MM) (K0 : Kd) (R0 : Kx) (h : sp_Url_host ds M K0 R0) : rd_Url_host (endG M.length K0 R0) (startG 1 ds) M := by
  obtain ⟨a, rfl, rfl, k⟩ := h
  unfold rd_Url_host
  simp! [e_fldI, r_fldU, atI_3, atI_4, atI_5, atI_6, gr_opt_iff]
  exact k
def rd_Url_port : DS :=
  (dRet (dOp rIxD (dFld "Url" "every" (dVar 0)) (dC (.int 3))))
theorem sem_Url_port (ds : List D) (M : MM) (K0 : Kd) (R0 : Kx) (h : sp_Url_port ds M K0 R0) : rd_Url_port (endG M.length K0 R0) (startG 1 ds) M := by
  obtain ⟨a, rfl, rfl, k⟩ := h
  unfold rd_Url_port
  simp! [e_fldI, r_fldU, atI_3, atI_4, atI_5, atI_6, gr_opt_iff]
  exact k
def rd_Url_path : DS :=
  (dRet (dOp rIxD (dFld "Url" "every" (dVar 0)) (dC (.int 4))))
theorem sem_Url_path (ds : List D) (M : MM) (K0 : Kd) (R0 : Kx) (h : sp_Url_path ds M K0 R0) : rd_Url_path (endG M.length K0 R0) (startG 1 ds) M := by
  obtain ⟨a, rfl, rfl, k⟩ := h
  unfold rd_Url_path
  simp! [e_fldI, r_fldU, atI_3, atI_4, atI_5, atI_6, gr_opt_iff]
  exact k
def rd_Url_query : DS :=
  (dRet (dOp rIxD (dFld "Url" "every" (dVar 0)) (dC (.int 5))))
theorem sem_Url_query (ds : List D) (M : MM) (K0 : Kd) (R0 : Kx) (h : sp_Url_query ds M K0 R0) : rd_Url_query (endG M.length K0 R0) (startG 1 ds) M := by
  obtain ⟨a, rfl, rfl, k⟩ := h
  unfold rd_Url_query
  simp! [e_fldI, r_fldU, atI_3, atI_4, atI_5, atI_6, gr_opt_iff]
  exact k
def rd_Url_fragment : DS :=
  (dRet (dOp rIxD (dFld "Url" "every" (dVar 0)) (dC (.int 6))))
theorem sem_Url_fragment (ds : List D) (M : MM) (K0 : Kd) (R0 : Kx) (h : sp_Url_fragment ds M K0 R0) : rd_Url_fragment (endG M.length K0 R0) (startG 1 ds) M := by
  obtain ⟨a, rfl, rfl, k⟩ := h
  unfold rd_Url_fragment
  simp! [e_fldI, r_fldU, atI_3, atI_4, atI_5, atI_6, gr_opt_iff]
  exact k
def rd_Url_has_authority : DS :=
  (dRet (dOp (rIsN' true) (dProp "Url" sp_Url_host (dVar 0)) (dC .non)))
theorem sem_Url_has_authority (ds : List D) (M : MM) (K0 : Kd) (R0 : Kx) (h : sp_Url_has_authority ds M K0 R0) : rd_Url_has_authority (endG M.length K0 R0) (startG 1 ds) M := by
  obtain ⟨a, rfl, rfl, k⟩ := h
  unfold rd_Url_has_authority
  simp!
  refine ⟨⟨_, _, rfl⟩, (by simp only [List.forall_mem_cons, List.forall_mem_nil, List.mem_singleton, forall_eq, implies_true, and_true, true_and, gr_str_iff, gr_int_iff, gr_bl_iff, gr_non_iff, gr_lss_iff, gr_ls0_iff, gr_opt_iff, gr_ints_iff, gr_rl_iff, gr_tpU_iff, gr_obU_iff, gr_cl_iff, gr_tp0_iff, gr_tpc_iff, gr_lsc_iff]), a, rfl, rfl, rfl, ?_⟩
  obtain ⟨s, u, h, p, r, q, f⟩ := a
  cases h <;> (simp! [optD]; exact k)
def rd_Url_is_opaque : DS :=
  (dRet (dAnd (dOp (rIsN' true) (dProp "Url" sp_Url_scheme (dVar 0)) (dC .non)) (dAnd (dNot (dProp "Url" sp_Url_has_authority (dVar 0))) (dNot (dM mStarts (dProp "Url" sp_Url_path (dVar 0)) (aCons (dC (.str [47])) aNil))))))
theorem sem_Url_is_opaque (ds : List D) (M : MM) (K0 : Kd) (R0 : Kx) (h : sp_Url_is_opaque ds M K0 R0) : rd_Url_is_opaque (endG M.length K0 R0) (startG 1 ds) M := by
  obtain ⟨⟨s, u, h, p, r, q, f⟩, rfl, rfl, ha, k⟩ := h
  unfold rd_Url_is_opaque
  simp!
  refine ⟨⟨_, _, rfl⟩, (by simp only [List.forall_mem_cons, List.forall_mem_nil, List.mem_singleton, forall_eq, implies_true, and_true, true_and, gr_str_iff, gr_int_iff, gr_bl_iff, gr_non_iff, gr_lss_iff, gr_ls0_iff, gr_opt_iff, gr_ints_iff, gr_rl_iff, gr_tpU_iff, gr_obU_iff, gr_cl_iff, gr_tp0_iff, gr_tpc_iff, gr_lsc_iff]), _, rfl, rfl, rfl, ?_⟩
  cases s with
  | none =>
    simp! [optD, Option.isSome_some, Option.isSome_none]
    exact k
  | some s =>
    simp! [optD, Option.isSome_some, Option.isSome_none]
    refine ⟨⟨_, _, rfl⟩, (by simp only [List.forall_mem_cons, List.forall_mem_nil, List.mem_singleton, forall_eq, implies_true, and_true, true_and, gr_str_iff, gr_int_iff, gr_bl_iff, gr_non_iff, gr_lss_iff, gr_ls0_iff, gr_opt_iff, gr_ints_iff, gr_rl_iff, gr_tpU_iff, gr_obU_iff, gr_cl_iff, gr_tp0_iff, gr_tpc_iff, gr_lsc_iff]), _, rfl, rfl, rfl, ?_⟩
    cases h with
    | some h =>
      simp! [optD, Option.isSome_some, Option.isSome_none]
      exact k
    | none =>
      simp! [optD, Option.isSome_some, Option.isSome_none]
      refine ⟨⟨_, _, rfl⟩, (by simp only [List.forall_mem_cons, List.forall_mem_nil, List.mem_singleton, forall_eq, implies_true, and_true, true_and, gr_str_iff, gr_int_iff, gr_bl_iff, gr_non_iff, gr_lss_iff, gr_ls0_iff, gr_opt_iff, gr_ints_iff, gr_rl_iff, gr_tpU_iff, gr_obU_iff, gr_cl_iff, gr_tp0_iff, gr_tpc_iff, gr_lsc_iff]), _, rfl, rfl, rfl, ?_⟩
      simp! [optD, Option.isSome_some, Option.isSome_none]
      exact k
def rd_Url_is_base : DS :=
  (dRet (dAnd (dOp (rIsN' true) (dProp "Url" sp_Url_scheme (dVar 0)) (dC .non)) (dNot (dProp "Url" sp_Url_is_opaque (dVar 0)))))
theorem sem_Url_is_base (ds : List D) (M : MM) (K0 : Kd) (R0 : Kx) (h : sp_Url_is_base ds M K0 R0) : rd_Url_is_base (endG M.length K0 R0) (startG 1 ds) M := by
  obtain ⟨⟨s, u, h, p, r, q, f⟩, rfl, rfl, ha, k⟩ := h
  unfold rd_Url_is_base
  simp!
  refine ⟨⟨_, _, rfl⟩, (by simp only [List.forall_mem_cons, List.forall_mem_nil, List.mem_singleton, forall_eq, implies_true, and_true, true_and, gr_str_iff, gr_int_iff, gr_bl_iff, gr_non_iff, gr_lss_iff, gr_ls0_iff, gr_opt_iff, gr_ints_iff, gr_rl_iff, gr_tpU_iff, gr_obU_iff, gr_cl_iff, gr_tp0_iff, gr_tpc_iff, gr_lsc_iff]), _, rfl, rfl, rfl, ?_⟩
  cases s with
  | none =>
    simp! [optD, Option.isSome_some, Option.isSome_none]
    exact k
  | some s =>
    simp! [optD, Option.isSome_some, Option.isSome_none]
    refine ⟨⟨_, _, rfl⟩, (by simp only [List.forall_mem_cons, List.forall_mem_nil, List.mem_singleton, forall_eq, implies_true, and_true, true_and, gr_str_iff, gr_int_iff, gr_bl_iff, gr_non_iff, gr_lss_iff, gr_ls0_iff, gr_opt_iff, gr_ints_iff, gr_rl_iff, gr_tpU_iff, gr_obU_iff, gr_cl_iff, gr_tp0_iff, gr_tpc_iff, gr_lsc_iff]), _, rfl, rfl, ha, rfl, ?_⟩
    simp! [optD, Option.isSome_some, Option.isSome_none]
    exact k
/-! ### Url.__eq__ -/
def sp_Url___eq__ : DSpec := fun ds M K _ => ∃ a b : Ur, ds = [obU a, obU b] ∧ M = [] ∧ K (.bl (decide (a = b))) []
def rd_Url___eq__ : DS :=
  (dRet (dAnd (dCall (rIsiO "Url") (aCons (dVar 1) (aCons (dC (.cl "Url")) aNil))) (dOp (rEqD' false) (dFld "Url" "every" (dVar 0)) (dFld "Url" "every" (dVar 1)))))
theorem sem_Url___eq__ (ds : List D) (M : MM) (K0 : Kd) (R0 : Kx) (h : sp_Url___eq__ ds M K0 R0) : rd_Url___eq__ (endG M.length K0 R0) (startG 2 ds) M := by
  obtain ⟨a, b, rfl, rfl, k⟩ := h
  unfold rd_Url___eq__
  simp! [e_fldI, r_fldU, r_eqU]
  exact k
/-! ### directory -/
def lastC (c : Nat) (p : Tx) : Tx := (spC c p).getLast (spC_ne c p)
theorem rfC_single {c : Nat} : ∀ {p : Tx}, rfC c p = none → spC c p = [p]
  | [], _ => rfl
  | x :: r, h => by
    unfold rfC at h
    cases e : rfC c r with
    | some k => rw [e] at h; cases h
    | none =>
      rw [e] at h
      have h : (if x = c then some 0 else none) = none := h
      have hx : x ≠ c := fun z => by
        rw [if_pos z] at h
        cases h
      exact spC_miss hx (rfC_single e)
theorem rfC_last_ne {c : Nat} : ∀ {p : Tx} {k : Nat}, rfC c p = some k → (spC c p).tail ≠ []
  | [], k, h => nomatch h
  | x :: r, k, h => by
    by_cases hx : x = c
    · rw [spC_hit r hx]
      exact spC_ne c r
    · cases e : rfC c r with
      | none =>
        unfold rfC at h
        rw [e] at h
        have h : (if x = c then some 0 else none) = some k := h
        rw [if_neg hx] at h
        cases h
      | some j =>
        have ih := rfC_last_ne e
        obtain ⟨a, b, q⟩ := List.exists_cons_of_ne_nil (spC_ne c r)
        rw [spC_miss hx q]
        rw [q] at ih
        exact ih
theorem rfC_last {c : Nat} : ∀ (p : Tx), optI (rfC c p) + 1 + ((lastC c p).length : Int) = p.length
  | [] => rfl
  | x :: r => by
    have ih := rfC_last (c := c) r
    cases e : rfC c r with
    | some k =>
      have e2 : rfC c (x :: r) = some (k + 1) := by unfold rfC; rw [e]
      have e3 : lastC c (x :: r) = lastC c r := by
        have hne := spC_ne c r
        unfold lastC
        by_cases hx : x = c
        · simp only [spC_hit r hx]
          exact List.getLast_cons hne
        · obtain ⟨a, b, q⟩ := List.exists_cons_of_ne_nil hne
          have hb : b ≠ [] := fun z => by
            have := rfC_last_ne e
            rw [q, z] at this
            exact this rfl
          simp only [spC_miss hx q, q]
          rw [List.getLast_cons hb, List.getLast_cons hb]
      rw [e2, e3]
      rw [e] at ih
      simp only [optI, List.length_cons] at ih ⊢
      omega
    | none =>
      have e4 := rfC_single e
      rw [e] at ih
      by_cases hx : x = c
      · have e2 : rfC c (x :: r) = some 0 := by unfold rfC; rw [e]; exact if_pos hx
        have e3 : lastC c (x :: r) = r := by
          unfold lastC
          simp only [spC_hit r hx, e4]
          rfl
        rw [e2, e3]
        simp only [optI, List.length_cons]
        omega
      · have e2 : rfC c (x :: r) = none := by unfold rfC; rw [e]; exact if_neg hx
        have e3 : lastC c (x :: r) = x :: r := by
          unfold lastC
          simp only [spC_miss hx e4]
          rfl
        rw [e2, e3]
        simp only [optI, List.length_cons]
        omega
def dirT (p : Tx) : Tx := if p = [] then [47] else p.take (p.length - (lastC 47 p).length)
theorem lastC_le (c : Nat) (p : Tx) : (lastC c p).length ≤ p.length := by
  have := rfC_last (c := c) p
  cases e : rfC c p with
  | none => rw [e] at this; simp only [optI] at this; omega
  | some k => rw [e] at this; simp only [optI] at this; omega
def sp_p_directory : DSpec := fun ds M K _ => ∃ p : Tx, ds = [.str p] ∧ M = [] ∧ p.length ≤ 1000 ∧ K (.str (dirT p)) []
def rd_p_directory : DS :=
  (dRet (dIf (qTru (dOp (rEqD' true) (dVar 0) (dC (.str [])))) (dSl (dVar 0) dNo (dPart (dOp rAddD (dM mRfind (dVar 0) (aCons (dC (.str [47])) aNil)) (dC (.int 1))))) (dC (.str [47]))))
theorem sem_p_directory (ds : List D) (M : MM) (K0 : Kd) (R0 : Kx) (h : sp_p_directory ds M K0 R0) : rd_p_directory (endG M.length K0 R0) (startG 1 ds) M := by
  obtain ⟨p, rfl, rfl, hp, k⟩ := h
  unfold rd_p_directory
  unfold dirT at k
  simp!
  refine ifI_i (fun z => ?_) fun z => ?_
  · rw [if_neg z] at k
    simp!
    have e : optI (rfC 47 p) + 1 = ((p.length - (lastC 47 p).length : Nat) : Int) := by
      have := rfC_last (c := 47) p
      have := lastC_le 47 p
      omega
    refine ⟨by omega, ?_⟩
    simp!
    show K0 (.str (cut p none (some (optI (rfC 47 p) + 1)))) []
    rw [e, cut_to]
    exact k
  · have z : p = [] := by simpa using z
    rw [if_pos z] at k
    simp!
    exact k
end L3

namespace L3
open PySem PySem.Spec PyProof.Rows L2 Evl
open Classical
local macro_rules | `(tactic| simp!) => `(tactic| try simp only [↓e_while, ↓e_var, ↓e_c, ↓e_op, ↓e_nil, ↓e_cons, ↓e_tup, ↓e_lst, ↓e_lstC, ↓e_tru, ↓e_qnot, ↓e_qand, ↓e_qor, ↓e_qyes, ↓e_if, ↓e_not, ↓e_and, ↓e_or, ↓e_neg, ↓e_chain, ↓e_call, ↓e_no, ↓e_part, ↓e_sl, ↓e_slC, ↓e_fn, ↓e_fn0, ↓e_fnK, ↓e_m0, ↓e_m, ↓e_frz, ↓e_fz, ↓e_app, ↓e_lc, ↓e_esc, ↓e_next, ↓e_seq, ↓e_ret, ↓e_retN, ↓e_drop, ↓e_set, ↓e_ifS, ↓e_brk, ↓e_cnt, ↓e_par, ↓e_aug, ↓e_setIx, ↓e_for, ↓e_unp, ↓e_nm, ↓e_tgt, ↓e_iLst, ↓e_iTp, ↓e_iStr, ↓e_iR1, ↓isR1_s, ↓e_iR2, ↓isR2_s, ↓e_iEn, ↓isEn_s, ↓e_iEnS, ↓isEnS_s, ↓r_addI, ↓r_addS, ↓r_addT, ↓r_addL, ↓r_iaddI, ↓r_iaddS, ↓r_sub, ↓r_mulI, ↓r_mulL, ↓r_mod, ↓r_fdiv, ↓r_pow, ↓r_ordI, ↓r_ordS, ↓r_is, ↓r_inS, ↓r_ixS, ↓r_ixL, ↓r_ixR, ↓r_ixT, ↓r_ixC, ↓r_slS, ↓r_slT, ↓r_slL, ↓r_slR, ↓r_lenS, ↓r_lenL, ↓r_lenT, ↓r_lenR, ↓r_abs, ↓r_max, ↓r_min, ↓r_intI, ↓r_intB, ↓r_ord, ↓r_listL, ↓r_listT, ↓r_tupL, ↓r_tupT, ↓r_split, ↓r_part, ↓r_join, ↓r_joinC, ↓r_starts, ↓r_ends, ↓r_lower, ↓r_upper, ↓r_rfind, ↓r_index, ↓r_all, ↓r_any, ↓r_sum, ↓r_hex, ↓r_isi, ↓r_eqS, ↓r_neS, ↓r_eqI, ↓r_neI, ↓r_eqB, ↓r_neB, ↓r_eqL, ↓r_neL, ↓r_eqL0, ↓r_neL0, ↓t_s, ↓r_eq00, ↓r_ne00, ↓gets_s, ↓gets_n, ↓onS_s, ↓onI_s, ↓onC_s, ↓onB_s, ↓onL_s, ↓thenP_t, ↓ifI_t, ↓ifI_f, ifI_t, ifI_f, gets_s, gets_n, onS_s, onI_s, onC_s, onB_s, onL_s, thenP_t, gets_if, endG_rt, endG_rz, endG_nx, endN_rt, has_ls1, has_ls2, startG, wipeG, setAll, cut_from1, cut_init, atI_0, atI_1, atI_2, atI_last, List.map_cons, List.map_nil, List.cons_append, List.nil_append, List.append_nil, List.replicate, List.getElem?_cons_zero, List.getElem?_cons_succ, List.getElem?_nil, List.set_cons_zero, List.set_cons_succ, List.length_cons, List.length_nil, List.length_map, List.length_append, Nat.zero_add, Nat.sub_zero, Nat.reduceSub, Nat.reduceAdd, Nat.reduceLeDiff, List.isEmpty_cons, List.isEmpty_nil, true_and, and_true, if_true, if_false, reduceIte, Bool.not_true, Bool.not_false, Bool.not_not, Bool.false_eq_true, reduceCtorEq, List.forall_mem_cons, List.forall_mem_nil, implies_true, List.mem_singleton, decide_eq_true_eq, Bool.not_eq_true', decide_eq_false_iff_not, okM0_iff, okM1c, List.take_zero, List.take_succ_cons, gr_str_iff, gr_int_iff, gr_bl_iff, gr_non_iff, gr_lss_iff, gr_ls0_iff, lsOf_ls, lsOf_rl, lsOf_c, sqOf_ls, sqOf_rl, sqOf_tp, sqOf_c, lsOwn_ls, lsOwn_c, tpOf_tp, truD_ls, truD_rl, truD_tp, truD_bl, truD_int, truD_non, isNon, tyD, get_snoc, set_snoc, not_true_eq_false, not_false_eq_true, Option.some.injEq, Int.reduceLT, Int.reduceLE, Int.reduceNeg, Int.reducePow, Int.reduceToNat, and_self, atI_nat, inS_one, ↓e_tab, ↓r_isBl, ↓r_isiO, ↓e_prop, ↓e_mk, ↓e_mkL, ↓e_meth, ↓e_cval, ↓e_cm, ↓e_setF, ↓e_zp, ↓e_enSK, ↓e_par3, ↓r_find, ↓e_asg3, ↓e_dispC, ↓e_dtIx, ↓onDt_s, ↓e_get2, ↓e_tabG, ↓tabGI_s, ↓tabGI_n, ↓r_lstrip, ↓e_unpL])
local macro_rules | `(tactic| simp! [$xs,*]) => `(tactic| try simp only [↓e_while, ↓e_var, ↓e_c, ↓e_op, ↓e_nil, ↓e_cons, ↓e_tup, ↓e_lst, ↓e_lstC, ↓e_tru, ↓e_qnot, ↓e_qand, ↓e_qor, ↓e_qyes, ↓e_if, ↓e_not, ↓e_and, ↓e_or, ↓e_neg, ↓e_chain, ↓e_call, ↓e_no, ↓e_part, ↓e_sl, ↓e_slC, ↓e_fn, ↓e_fn0, ↓e_fnK, ↓e_m0, ↓e_m, ↓e_frz, ↓e_fz, ↓e_app, ↓e_lc, ↓e_esc, ↓e_next, ↓e_seq, ↓e_ret, ↓e_retN, ↓e_drop, ↓e_set, ↓e_ifS, ↓e_brk, ↓e_cnt, ↓e_par, ↓e_aug, ↓e_setIx, ↓e_for, ↓e_unp, ↓e_nm, ↓e_tgt, ↓e_iLst, ↓e_iTp, ↓e_iStr, ↓e_iR1, ↓isR1_s, ↓e_iR2, ↓isR2_s, ↓e_iEn, ↓isEn_s, ↓e_iEnS, ↓isEnS_s, ↓r_addI, ↓r_addS, ↓r_addT, ↓r_addL, ↓r_iaddI, ↓r_iaddS, ↓r_sub, ↓r_mulI, ↓r_mulL, ↓r_mod, ↓r_fdiv, ↓r_pow, ↓r_ordI, ↓r_ordS, ↓r_is, ↓r_inS, ↓r_ixS, ↓r_ixL, ↓r_ixR, ↓r_ixT, ↓r_ixC, ↓r_slS, ↓r_slT, ↓r_slL, ↓r_slR, ↓r_lenS, ↓r_lenL, ↓r_lenT, ↓r_lenR, ↓r_abs, ↓r_max, ↓r_min, ↓r_intI, ↓r_intB, ↓r_ord, ↓r_listL, ↓r_listT, ↓r_tupL, ↓r_tupT, ↓r_split, ↓r_part, ↓r_join, ↓r_joinC, ↓r_starts, ↓r_ends, ↓r_lower, ↓r_upper, ↓r_rfind, ↓r_index, ↓r_all, ↓r_any, ↓r_sum, ↓r_hex, ↓r_isi, ↓r_eqS, ↓r_neS, ↓r_eqI, ↓r_neI, ↓r_eqB, ↓r_neB, ↓r_eqL, ↓r_neL, ↓r_eqL0, ↓r_neL0, ↓t_s, ↓r_eq00, ↓r_ne00, ↓gets_s, ↓gets_n, ↓onS_s, ↓onI_s, ↓onC_s, ↓onB_s, ↓onL_s, ↓thenP_t, ↓ifI_t, ↓ifI_f, ifI_t, ifI_f, gets_s, gets_n, onS_s, onI_s, onC_s, onB_s, onL_s, thenP_t, gets_if, endG_rt, endG_rz, endG_nx, endN_rt, has_ls1, has_ls2, startG, wipeG, setAll, cut_from1, cut_init, atI_0, atI_1, atI_2, atI_last, List.map_cons, List.map_nil, List.cons_append, List.nil_append, List.append_nil, List.replicate, List.getElem?_cons_zero, List.getElem?_cons_succ, List.getElem?_nil, List.set_cons_zero, List.set_cons_succ, List.length_cons, List.length_nil, List.length_map, List.length_append, Nat.zero_add, Nat.sub_zero, Nat.reduceSub, Nat.reduceAdd, Nat.reduceLeDiff, List.isEmpty_cons, List.isEmpty_nil, true_and, and_true, if_true, if_false, reduceIte, Bool.not_true, Bool.not_false, Bool.not_not, Bool.false_eq_true, reduceCtorEq, List.forall_mem_cons, List.forall_mem_nil, implies_true, List.mem_singleton, decide_eq_true_eq, Bool.not_eq_true', decide_eq_false_iff_not, okM0_iff, okM1c, List.take_zero, List.take_succ_cons, gr_str_iff, gr_int_iff, gr_bl_iff, gr_non_iff, gr_lss_iff, gr_ls0_iff, lsOf_ls, lsOf_rl, lsOf_c, sqOf_ls, sqOf_rl, sqOf_tp, sqOf_c, lsOwn_ls, lsOwn_c, tpOf_tp, truD_ls, truD_rl, truD_tp, truD_bl, truD_int, truD_non, isNon, tyD, get_snoc, set_snoc, not_true_eq_false, not_false_eq_true, Option.some.injEq, Int.reduceLT, Int.reduceLE, Int.reduceNeg, Int.reducePow, Int.reduceToNat, and_self, atI_nat, inS_one, ↓e_tab, ↓r_isBl, ↓r_isiO, ↓e_prop, ↓e_mk, ↓e_mkL, ↓e_meth, ↓e_cval, ↓e_cm, ↓e_setF, ↓e_zp, ↓e_enSK, ↓e_par3, ↓r_find, ↓e_asg3, ↓e_dispC, ↓e_dtIx, ↓onDt_s, ↓e_get2, ↓e_tabG, ↓tabGI_s, ↓tabGI_n, ↓r_lstrip, ↓e_unpL, $xs,*])
local macro_rules | `(tactic| dsimp!) => `(tactic| simp only [List.forall_mem_cons, List.forall_mem_nil, List.mem_singleton, forall_eq, implies_true, and_true, true_and, gr_str_iff, gr_int_iff, gr_bl_iff, gr_non_iff, gr_lss_iff, gr_ls0_iff, gr_opt_iff, gr_ints_iff, gr_rl_iff, gr_tpU_iff, gr_obU_iff, gr_cl_iff, gr_tp0_iff, gr_tpc_iff, gr_lsc_iff])
/-! ### Url.of -/
structure UrOk (a : Ur) : Prop where
  s : ∀ t, a.s = some t → PartOk nScheme t
  u : ∀ t, a.u = some t → PartOk nUser t
  h : ∀ t, a.h = some t → PartOk nHost t
  p : ∀ t, a.p = some t → PartOk nPort t
  r : PartOk nPath a.r
  q : ∀ t, a.q = some t → PartOk nQuery t
  f : ∀ t, a.f = some t → PartOk nFrag t
  hu : a.h = none → a.u = none ∧ a.p = none
  pp : pathPossB a.s a.h a.r = true
theorem optD_s {t : Tx} : optD (some t) = .str t := rfl
theorem optD_n : optD none = .non := rfl
def sp_Url_of : DSpec := fun ds M K _ => ∃ a : Ur, ds = [.cl "Url", optD a.s, optD a.u, optD a.h, optD a.p, .str a.r, optD a.q, optD a.f] ∧ M = [] ∧ UrOk a ∧ K (obU a) []
def lb0_Url_of : DS :=
  (dIfS (qAnd (qNot (qTru (dFn (cPure sp_p_is_part) [] (aCons (dVar 9) (aCons (dVar 10) aNil))))) (qOr (qTru (dOp (rIsN' true) (dVar 10) (dC .non))) (qTru (dOp (rEqD' false) (dVar 9) (dC (.str [112, 97, 116, 104]))))))
    dNever
    dNext)
def rd_Url_of : DS :=
  (dSeq (dSet 8 (dTup (aCons (dVar 1) (aCons (dVar 2) (aCons (dVar 3) (aCons (dVar 4) (aCons (dVar 5) (aCons (dVar 6) (aCons (dVar 7) aNil)))))))))
    (dSeq (dFor (iZp (aCons (dCval "Url" (.tp (([[115, 99, 104, 101, 109, 101], [117, 115, 101, 114], [104, 111, 115, 116], [112, 111, 114, 116], [112, 97, 116, 104], [113, 117, 101, 114, 121], [102, 114, 97, 103, 109, 101, 110, 116]] : List Tx).map .str)) (dVar 0)) (aCons (dVar 8) aNil))) (Tgt.tup [9, 10]) lb0_Url_of)
    (dSeq (dIfS (qAnd (qTru (dOp (rIsN' false) (dVar 3) (dC .non))) (qTru (dOp (rIsN' true) (dVar 2) (dC .non))))
    dNever
    dNext)
    (dSeq (dIfS (qAnd (qTru (dOp (rIsN' false) (dVar 3) (dC .non))) (qTru (dOp (rIsN' true) (dVar 4) (dC .non))))
    dNever
    dNext)
    (dSeq (dIfS (qNot (qTru (dFn (cPure sp_p_is_path_possible) [] (aCons (dVar 1) (aCons (dVar 3) (aCons (dVar 5) aNil))))))
    dNever
    dNext)
    (dRet (dMkL 0 "Url" sp_Url___init__ [] (aCons (dVar 8) aNil))))))))
def partsU (a : Ur) : List (Tx × Option Tx) := [(nScheme, a.s), (nUser, a.u), (nHost, a.h), (nPort, a.p), (nPath, some a.r), (nQuery, a.q), (nFrag, a.f)]
theorem partsU_ok {a : Ur} (h : UrOk a) : ∀ x ∈ partsU a, x.1.length ≤ 10 ∧ (∀ t, x.2 = some t → PartOk x.1 t) ∧ (x.2 = none → x.1 ≠ nPath) := by
  unfold partsU
  simp only [List.forall_mem_cons]
  refine ⟨⟨by decide, h.s, fun _ => by decide⟩, ⟨by decide, h.u, fun _ => by decide⟩, ⟨by decide, h.h, fun _ => by decide⟩, ⟨by decide, h.p, fun _ => by decide⟩, ⟨by decide, fun t e => ?_, fun e => nomatch e⟩, ⟨by decide, h.q, fun _ => by decide⟩, ⟨by decide, h.f, fun _ => by decide⟩, fun _ h => nomatch h⟩
  cases e
  exact h.r
theorem mkU {a : Ur} {M : MM} {K : Kd} (k : K (obU a) M) : mkI "Url" sp_Url___init__ [tpU a] M (b := ⟨K⟩) := by
  refine ⟨by rw [List.forall_mem_cons]; exact ⟨gr_tpU a, fun _ h => nomatch h⟩, tpU a, rfl, rfl, gr_tpU a, rfl, _, _, rfl, ?_, k⟩
  rw [List.forall_mem_cons]
  exact ⟨gr_tpU a, fun _ h => nomatch h⟩
theorem sem_Url_of (ds : List D) (M : MM) (K0 : Kd) (R0 : Kx) (h : sp_Url_of ds M K0 R0) : rd_Url_of (endG M.length K0 R0) (startG 11 ds) M := by
  obtain ⟨a, rfl, rfl, ok, k⟩ := h
  have hp := partsU_ok ok
  unfold rd_Url_of
  simp!
  refine zp_tt ?_
  refine for_indL (enc := fun x : Tx × Option Tx => .tp [.str x.1, optD x.2]) (P := fun _ _ Γ M => M = [] ∧ ∃ o1 o2, Γ = [some (.cl "Url"), some (optD a.s), some (optD a.u), some (optD a.h), some (optD a.p), some (.str a.r), some (optD a.q), some (optD a.f), some (tpU a), o1, o2]) (partsU a) ?_ ?_ ⟨rfl, none, none, rfl⟩
  · rintro Γ M ⟨rfl, o1, o2, rfl⟩
    refine ⟨trivial, ?_⟩
    dsimp only
    have hh := ok.hu
    have pp := ok.pp
    have hl : a.r.length ≤ 10000 := by have := ok.r.1; omega
    cases e : a.h with
    | some h =>
      rw [e] at pp
      simp! [optD_s, optD_n]
      refine ⟨(by dsimp!), a.s, some h, a.r, rfl, rfl, hl, rfl, ?_⟩
      rw [pp]
      simp!
      refine mkU ?_
      simp! [gr_obU_iff]
      exact k
    | none =>
      rw [e] at pp
      obtain ⟨e1, e2⟩ := hh e
      rw [e1, e2]
      simp! [optD_s, optD_n]
      refine ⟨(by dsimp!), a.s, none, a.r, rfl, rfl, hl, rfl, ?_⟩
      rw [pp]
      simp!
      refine mkU ?_
      simp! [gr_obU_iff]
      exact k
  · rintro l x r Γ M N hx hN ⟨rfl, o1, o2, rfl⟩
    refine ⟨trivial, ?_⟩
    obtain ⟨h1, h2, h3⟩ := hp x (by rw [← hx]; simp)
    have go : N [some (.cl "Url"), some (optD a.s), some (optD a.u), some (optD a.h), some (optD a.p), some (.str a.r), some (optD a.q), some (optD a.f), some (tpU a), some (.str x.1), some (optD x.2)] [] := hN _ _ ⟨rfl, _, _, rfl⟩
    unfold lb0_Url_of
    simp!
    refine ⟨(by dsimp!), x.1, x.2, h1, rfl, rfl, h2, rfl, ?_⟩
    cases e : x.2 with
    | some t =>
      rw [e] at go
      simp! [Option.isSome_some]
      exact go
    | none =>
      rw [e] at go
      simp! [Option.isSome_none, optD_n]
      rw [ifI_m (h3 e)]
      simp!
      exact go
end L3

namespace L3
open PySem PySem.Spec PyProof.Rows L2 Evl
open Classical
local macro_rules | `(tactic| simp!) => `(tactic| try simp only [↓e_while, ↓e_var, ↓e_c, ↓e_op, ↓e_nil, ↓e_cons, ↓e_tup, ↓e_lst, ↓e_lstC, ↓e_tru, ↓e_qnot, ↓e_qand, ↓e_qor, ↓e_qyes, ↓e_if, ↓e_not, ↓e_and, ↓e_or, ↓e_neg, ↓e_chain, ↓e_call, ↓e_no, ↓e_part, ↓e_sl, ↓e_slC, ↓e_fn, ↓e_fn0, ↓e_fnK, ↓e_m0, ↓e_m, ↓e_frz, ↓e_fz, ↓e_app, ↓e_lc, ↓e_esc, ↓e_next, ↓e_seq, ↓e_ret, ↓e_retN, ↓e_drop, ↓e_set, ↓e_ifS, ↓e_brk, ↓e_cnt, ↓e_par, ↓e_aug, ↓e_setIx, ↓e_for, ↓e_unp, ↓e_nm, ↓e_tgt, ↓e_iLst, ↓e_iTp, ↓e_iStr, ↓e_iR1, ↓isR1_s, ↓e_iR2, ↓isR2_s, ↓e_iEn, ↓isEn_s, ↓e_iEnS, ↓isEnS_s, ↓r_addI, ↓r_addS, ↓r_addT, ↓r_addL, ↓r_iaddI, ↓r_iaddS, ↓r_sub, ↓r_mulI, ↓r_mulL, ↓r_mod, ↓r_fdiv, ↓r_pow, ↓r_ordI, ↓r_ordS, ↓r_is, ↓r_inS, ↓r_ixS, ↓r_ixL, ↓r_ixR, ↓r_ixT, ↓r_ixC, ↓r_slS, ↓r_slT, ↓r_slL, ↓r_slR, ↓r_lenS, ↓r_lenL, ↓r_lenT, ↓r_lenR, ↓r_abs, ↓r_max, ↓r_min, ↓r_intI, ↓r_intB, ↓r_ord, ↓r_listL, ↓r_listT, ↓r_tupL, ↓r_tupT, ↓r_split, ↓r_part, ↓r_join, ↓r_joinC, ↓r_starts, ↓r_ends, ↓r_lower, ↓r_upper, ↓r_rfind, ↓r_index, ↓r_all, ↓r_any, ↓r_sum, ↓r_hex, ↓r_isi, ↓r_eqS, ↓r_neS, ↓r_eqI, ↓r_neI, ↓r_eqB, ↓r_neB, ↓r_eqL, ↓r_neL, ↓r_eqL0, ↓r_neL0, ↓t_s, ↓r_eq00, ↓r_ne00, ↓gets_s, ↓gets_n, ↓onS_s, ↓onI_s, ↓onC_s, ↓onB_s, ↓onL_s, ↓thenP_t, ↓ifI_t, ↓ifI_f, ifI_t, ifI_f, gets_s, gets_n, onS_s, onI_s, onC_s, onB_s, onL_s, thenP_t, gets_if, endG_rt, endG_rz, endG_nx, endN_rt, has_ls1, has_ls2, startG, wipeG, setAll, cut_from1, cut_init, atI_0, atI_1, atI_2, atI_last, List.map_cons, List.map_nil, List.cons_append, List.nil_append, List.append_nil, List.replicate, List.getElem?_cons_zero, List.getElem?_cons_succ, List.getElem?_nil, List.set_cons_zero, List.set_cons_succ, List.length_cons, List.length_nil, List.length_map, List.length_append, Nat.zero_add, Nat.sub_zero, Nat.reduceSub, Nat.reduceAdd, Nat.reduceLeDiff, List.isEmpty_cons, List.isEmpty_nil, true_and, and_true, if_true, if_false, reduceIte, Bool.not_true, Bool.not_false, Bool.not_not, Bool.false_eq_true, reduceCtorEq, List.forall_mem_cons, List.forall_mem_nil, implies_true, List.mem_singleton, decide_eq_true_eq, Bool.not_eq_true', decide_eq_false_iff_not, okM0_iff, okM1c, List.take_zero, List.take_succ_cons, gr_str_iff, gr_int_iff, gr_bl_iff, gr_non_iff, gr_lss_iff, gr_ls0_iff, lsOf_ls, lsOf_rl, lsOf_c, sqOf_ls, sqOf_rl, sqOf_tp, sqOf_c, lsOwn_ls, lsOwn_c, tpOf_tp, truD_ls, truD_rl, truD_tp, truD_bl, truD_int, truD_non, isNon, tyD, get_snoc, set_snoc, not_true_eq_false, not_false_eq_true, Option.some.injEq, Int.reduceLT, Int.reduceLE, Int.reduceNeg, Int.reducePow, Int.reduceToNat, and_self, atI_nat, inS_one, ↓e_tab, ↓r_isBl, ↓r_isiO, ↓e_prop, ↓e_mk, ↓e_mkL, ↓e_meth, ↓e_cval, ↓e_cm, ↓e_setF, ↓e_zp, ↓e_enSK, ↓e_par3, ↓r_find, ↓e_asg3, ↓e_dispC, ↓e_dtIx, ↓onDt_s, ↓e_get2, ↓e_tabG, ↓tabGI_s, ↓tabGI_n, ↓r_lstrip, ↓e_unpL])
local macro_rules | `(tactic| simp! [$xs,*]) => `(tactic| try simp only [↓e_while, ↓e_var, ↓e_c, ↓e_op, ↓e_nil, ↓e_cons, ↓e_tup, ↓e_lst, ↓e_lstC, ↓e_tru, ↓e_qnot, ↓e_qand, ↓e_qor, ↓e_qyes, ↓e_if, ↓e_not, ↓e_and, ↓e_or, ↓e_neg, ↓e_chain, ↓e_call, ↓e_no, ↓e_part, ↓e_sl, ↓e_slC, ↓e_fn, ↓e_fn0, ↓e_fnK, ↓e_m0, ↓e_m, ↓e_frz, ↓e_fz, ↓e_app, ↓e_lc, ↓e_esc, ↓e_next, ↓e_seq, ↓e_ret, ↓e_retN, ↓e_drop, ↓e_set, ↓e_ifS, ↓e_brk, ↓e_cnt, ↓e_par, ↓e_aug, ↓e_setIx, ↓e_for, ↓e_unp, ↓e_nm, ↓e_tgt, ↓e_iLst, ↓e_iTp, ↓e_iStr, ↓e_iR1, ↓isR1_s, ↓e_iR2, ↓isR2_s, ↓e_iEn, ↓isEn_s, ↓e_iEnS, ↓isEnS_s, ↓r_addI, ↓r_addS, ↓r_addT, ↓r_addL, ↓r_iaddI, ↓r_iaddS, ↓r_sub, ↓r_mulI, ↓r_mulL, ↓r_mod, ↓r_fdiv, ↓r_pow, ↓r_ordI, ↓r_ordS, ↓r_is, ↓r_inS, ↓r_ixS, ↓r_ixL, ↓r_ixR, ↓r_ixT, ↓r_ixC, ↓r_slS, ↓r_slT, ↓r_slL, ↓r_slR, ↓r_lenS, ↓r_lenL, ↓r_lenT, ↓r_lenR, ↓r_abs, ↓r_max, ↓r_min, ↓r_intI, ↓r_intB, ↓r_ord, ↓r_listL, ↓r_listT, ↓r_tupL, ↓r_tupT, ↓r_split, ↓r_part, ↓r_join, ↓r_joinC, ↓r_starts, ↓r_ends, ↓r_lower, ↓r_upper, ↓r_rfind, ↓r_index, ↓r_all, ↓r_any, ↓r_sum, ↓r_hex, ↓r_isi, ↓r_eqS, ↓r_neS, ↓r_eqI, ↓r_neI, ↓r_eqB, ↓r_neB, ↓r_eqL, ↓r_neL, ↓r_eqL0, ↓r_neL0, ↓t_s, ↓r_eq00, ↓r_ne00, ↓gets_s, ↓gets_n, ↓onS_s, ↓onI_s, ↓onC_s, ↓onB_s, ↓onL_s, ↓thenP_t, ↓ifI_t, ↓ifI_f, ifI_t, ifI_f, gets_s, gets_n, onS_s, onI_s, onC_s, onB_s, onL_s, thenP_t, gets_if, endG_rt, endG_rz, endG_nx, endN_rt, has_ls1, has_ls2, startG, wipeG, setAll, cut_from1, cut_init, atI_0, atI_1, atI_2, atI_last, List.map_cons, List.map_nil, List.cons_append, List.nil_append, List.append_nil, List.replicate, List.getElem?_cons_zero, List.getElem?_cons_succ, List.getElem?_nil, List.set_cons_zero, List.set_cons_succ, List.length_cons, List.length_nil, List.length_map, List.length_append, Nat.zero_add, Nat.sub_zero, Nat.reduceSub, Nat.reduceAdd, Nat.reduceLeDiff, List.isEmpty_cons, List.isEmpty_nil, true_and, and_true, if_true, if_false, reduceIte, Bool.not_true, Bool.not_false, Bool.not_not, Bool.false_eq_true, reduceCtorEq, List.forall_mem_cons, List.forall_mem_nil, implies_true, List.mem_singleton, decide_eq_true_eq, Bool.not_eq_true', decide_eq_false_iff_not, okM0_iff, okM1c, List.take_zero, List.take_succ_cons, gr_str_iff, gr_int_iff, gr_bl_iff, gr_non_iff, gr_lss_iff, gr_ls0_iff, lsOf_ls, lsOf_rl, lsOf_c, sqOf_ls, sqOf_rl, sqOf_tp, sqOf_c, lsOwn_ls, lsOwn_c, tpOf_tp, truD_ls, truD_rl, truD_tp, truD_bl, truD_int, truD_non, isNon, tyD, get_snoc, set_snoc, not_true_eq_false, not_false_eq_true, Option.some.injEq, Int.reduceLT, Int.reduceLE, Int.reduceNeg, Int.reducePow, Int.reduceToNat, and_self, atI_nat, inS_one, ↓e_tab, ↓r_isBl, ↓r_isiO, ↓e_prop, ↓e_mk, ↓e_mkL, ↓e_meth, ↓e_cval, ↓e_cm, ↓e_setF, ↓e_zp, ↓e_enSK, ↓e_par3, ↓r_find, ↓e_asg3, ↓e_dispC, ↓e_dtIx, ↓onDt_s, ↓e_get2, ↓e_tabG, ↓tabGI_s, ↓tabGI_n, ↓r_lstrip, ↓e_unpL, $xs,*])
local macro_rules | `(tactic| dsimp!) => `(tactic| simp only [List.forall_mem_cons, List.forall_mem_nil, List.mem_singleton, forall_eq, implies_true, and_true, true_and, gr_str_iff, gr_int_iff, gr_bl_iff, gr_non_iff, gr_lss_iff, gr_ls0_iff, gr_opt_iff, gr_ints_iff, gr_rl_iff, gr_tpU_iff, gr_obU_iff, gr_cl_iff, gr_tp0_iff, gr_tpc_iff, gr_lsc_iff])
/-! ### joins -/
def qOf (a b : Option Tx) : Option Tx := if b.isSome then b else a
def joinU (a b : Ur) : Ur :=
  if b.s.isSome then ⟨b.s, b.u, b.h, b.p, cleanedP b.r b.h.isSome, b.q, b.f⟩
  else if b.h.isSome then ⟨a.s, b.u, b.h, b.p, cleanedP b.r true, b.q, b.f⟩
  else if b.r = [] then ⟨a.s, a.u, a.h, a.p, a.r, qOf a.q b.q, b.f⟩
  else ⟨a.s, a.u, a.h, a.p, cleanedP (if [47].isPrefixOf b.r then b.r else dirT a.r ++ b.r) a.h.isSome, b.q, b.f⟩
abbrev six (a : Ur) : D := .tp [optD a.s, optD a.u, optD a.h, optD a.p, .str a.r, optD a.q]
theorem gr_six (a : Ur) : Gr (six a) := by
  rw [gr_tp]
  simp only [List.forall_mem_cons, gr_opt_iff, gr_str_iff, true_and]
  intro d hd
  exact absurd hd List.not_mem_nil
theorem gr_six_iff {a : Ur} : Gr (six a) ↔ True := iff_true_intro (gr_six a)
theorem dirT_le (p : Tx) : (dirT p).length ≤ p.length + 1 := by
  unfold dirT
  split
  · simp
  · rw [List.length_take]; omega
def sp_Url_joined_parts : DSpec := fun ds M K _ => ∃ a b : Ur, ds = [obU a, obU b] ∧ M = [] ∧ a.r.length ≤ 400 ∧ b.r.length ≤ 400 ∧ K (six (joinU a b)) []
def rd_Url_joined_parts : DS :=
  (dSeq (dUnp (Tgt.tup [2, 3, 4, 5, 6, 7, 8]) (dFld "Url" "every" (dVar 1)))
    (dSeq (dIfS (qTru (dOp (rIsN' true) (dVar 2) (dC .non)))
    (dRet (dTup (aCons (dVar 2) (aCons (dVar 3) (aCons (dVar 4) (aCons (dVar 5) (aCons (dFn (cPure sp_p_cleaned_path) [] (aCons (dVar 6) (aCons (dOp (rIsN' true) (dVar 4) (dC .non)) aNil))) (aCons (dVar 7) aNil))))))))
    dNext)
    (dSeq (dIfS (qTru (dOp (rIsN' true) (dVar 4) (dC .non)))
    (dRet (dTup (aCons (dProp "Url" sp_Url_scheme (dVar 0)) (aCons (dVar 3) (aCons (dVar 4) (aCons (dVar 5) (aCons (dFn (cPure sp_p_cleaned_path) [] (aCons (dVar 6) (aCons (dC (.bl true)) aNil))) (aCons (dVar 7) aNil))))))))
    dNext)
    (dSeq (dIfS (qTru (dOp (rEqD' false) (dVar 6) (dC (.str []))))
    (dRet (dOp rAddD (dSl (dFld "Url" "every" (dVar 0)) dNo (dPart (dC (.int 5)))) (dTup (aCons (dIf (qTru (dOp (rIsN' false) (dVar 7) (dC .non))) (dProp "Url" sp_Url_query (dVar 0)) (dVar 7)) aNil))))
    dNext)
    (dSeq (dSet 9 (dIf (qTru (dM mStarts (dVar 6) (aCons (dC (.str [47])) aNil))) (dVar 6) (dOp rAddD (dFn (cPure sp_p_directory) [] (aCons (dProp "Url" sp_Url_path (dVar 0)) aNil)) (dVar 6))))
    (dRet (dOp rAddD (dSl (dFld "Url" "every" (dVar 0)) dNo (dPart (dC (.int 4)))) (dTup (aCons (dFn (cPure sp_p_cleaned_path) [] (aCons (dVar 9) (aCons (dProp "Url" sp_Url_has_authority (dVar 0)) aNil))) (aCons (dVar 7) aNil))))))))))
theorem sem_Url_joined_parts (ds : List D) (M : MM) (K0 : Kd) (R0 : Kx) (h : sp_Url_joined_parts ds M K0 R0) : rd_Url_joined_parts (endG M.length K0 R0) (startG 10 ds) M := by
  obtain ⟨a, ⟨s, u, h, p, r, q, f⟩, rfl, rfl, ha, hb, k⟩ := h
  unfold rd_Url_joined_parts
  dsimp only at hb
  cases s with
  | some s =>
    cases h with
    | some h =>
      simp! [e_fldI, r_fldU, optD_s, optD_n]
      refine ⟨(by dsimp!), r, true, rfl, rfl, by omega, rfl, ?_⟩
      simp!
      refine ⟨(by dsimp!), k⟩
    | none =>
      simp! [e_fldI, r_fldU, optD_s, optD_n]
      refine ⟨(by dsimp!), r, false, rfl, rfl, by omega, rfl, ?_⟩
      simp!
      refine ⟨(by dsimp!), k⟩
  | none => 
    cases h with
    | some h =>
      simp! [e_fldI, r_fldU, optD_s, optD_n]
      refine ⟨⟨_, _, rfl⟩, (by dsimp!), a, rfl, rfl, rfl, ?_⟩
      simp!
      refine ⟨(by dsimp!), r, true, rfl, rfl, by omega, rfl, ?_⟩
      simp!
      refine ⟨(by dsimp!), k⟩
    | none =>
      simp! [e_fldI, r_fldU, optD_s, optD_n]
      refine ifI_i (fun z => ?_) fun z => ?_
      · subst z
        cases q with
        | none =>
          simp! [e_fldI, r_fldU, optD_s, optD_n, cut_t5]
          refine ⟨⟨_, _, rfl⟩, (by dsimp!), a, rfl, rfl, rfl, ?_⟩
          simp!
          refine ⟨(by rw [cut_t5]; exact (by decide : 5 ≤ 16777215)), ?_⟩
          simp! [cut_t5]
          refine ⟨(by dsimp!), k⟩
        | some q =>
          simp! [e_fldI, r_fldU, optD_s, optD_n, cut_t5]
          refine ⟨(by dsimp!), k⟩
      · have e : joinU a ⟨none, u, none, p, r, q, f⟩ = ⟨a.s, a.u, a.h, a.p, cleanedP (if [47].isPrefixOf r then r else dirT a.r ++ r) a.h.isSome, q, f⟩ := by
          show (if r = [] then _ else _) = _
          rw [if_neg z]
        rw [e] at k
        have hd := dirT_le a.r
        cases c : [47].isPrefixOf r with
        | true =>
          rw [c] at k
          simp! [c, e_fldI, r_fldU, optD_s, optD_n, cut_t4]
          refine ⟨⟨_, _, rfl⟩, (by dsimp!), a, rfl, rfl, rfl, ?_⟩
          simp!
          refine ⟨(by dsimp!), r, a.h.isSome, rfl, rfl, by omega, rfl, ?_⟩
          simp!
          refine ⟨(by rw [cut_t4]; exact (by decide : 4 ≤ 16777214)), ?_⟩
          simp! [cut_t4]
          refine ⟨(by dsimp!), k⟩
        | false =>
          rw [c] at k
          simp! [c]
          refine ⟨⟨_, _, rfl⟩, (by dsimp!), a, rfl, rfl, rfl, ?_⟩
          simp!
          refine ⟨(by dsimp!), a.r, rfl, rfl, by omega, rfl, ?_⟩
          simp!
          refine ⟨by omega, ?_⟩
          simp! [e_fldI, r_fldU, cut_t4]
          refine ⟨⟨_, _, rfl⟩, (by dsimp!), a, rfl, rfl, rfl, ?_⟩
          simp!
          refine ⟨(by dsimp!), dirT a.r ++ r, a.h.isSome, rfl, rfl, by rw [List.length_append]; omega, rfl, ?_⟩
          simp!
          refine ⟨(by rw [cut_t4]; exact (by decide : 4 ≤ 16777214)), ?_⟩
          simp! [cut_t4]
          refine ⟨(by dsimp!), k⟩
def sp_Url___add__ : DSpec := fun ds M K _ => ∃ a b : Ur, ds = [obU a, obU b] ∧ M = [] ∧ a.r.length ≤ 400 ∧ b.r.length ≤ 400 ∧ isBase a = true ∧ K (obU (joinU a b)) []
theorem joinU_f (a b : Ur) : (joinU a b).f = b.f := by
  unfold joinU
  split
  · rfl
  · split
    · rfl
    · split <;> rfl
theorem add_f (a : Ur) (o : Option Tx) (h : a.f = o) : D.tp [optD a.s, optD a.u, optD a.h, optD a.p, .str a.r, optD a.q, optD o] = tpU a := by rw [← h]
def rd_Url___add__ : DS :=
  (dSeq (dIfS (qNot (qTru (dProp "Url" sp_Url_is_base (dVar 0))))
    dNever
    dNext)
    (dRet (dMk "Url" sp_Url___init__ [] (aCons (dOp rAddD (dMeth "Url" "joined_parts" sp_Url_joined_parts [] (dVar 0) (aCons (dVar 1) aNil)) (dTup (aCons (dProp "Url" sp_Url_fragment (dVar 1)) aNil))) aNil))))
theorem sem_Url___add__ (ds : List D) (M : MM) (K0 : Kd) (R0 : Kx) (h : sp_Url___add__ ds M K0 R0) : rd_Url___add__ (endG M.length K0 R0) (startG 2 ds) M := by
  obtain ⟨a, b, rfl, rfl, ha, hb, hbase, k⟩ := h
  unfold rd_Url___add__
  simp!
  refine ⟨⟨_, _, rfl⟩, (by dsimp!), a, rfl, rfl, by omega, rfl, ?_⟩
  rw [hbase]
  simp!
  refine ⟨⟨_, _, rfl, by decide⟩, ?_⟩
  simp!
  refine ⟨(by dsimp!), a, b, rfl, rfl, ha, hb, rfl, ?_⟩
  simp!
  refine ⟨⟨_, _, rfl⟩, (by dsimp!), b, rfl, rfl, rfl, ?_⟩
  simp!
  rw [add_f _ _ (joinU_f a b)]
  refine mkU ?_
  simp! [gr_obU_iff]
  exact k
def sp_p_join : DSpec := fun ds M K _ => ∃ a b : Ur, ds = [obU a, obU b] ∧ M = [] ∧ a.r.length ≤ 400 ∧ b.r.length ≤ 400 ∧ isBase a = true ∧ K (obU (joinU a b)) []
def rd_p_join : DS :=
  (dRet (dOp (rOwn "Url" sp_Url___add__) (dVar 0) (dVar 1)))
theorem sem_p_join (ds : List D) (M : MM) (K0 : Kd) (R0 : Kx) (h : sp_p_join ds M K0 R0) : rd_p_join (endG M.length K0 R0) (startG 2 ds) M := by
  obtain ⟨a, b, rfl, rfl, ha, hb, hbase, k⟩ := h
  unfold rd_p_join
  simp!
  refine ⟨⟨_, _, rfl⟩, ⟨_, _, rfl⟩, (by dsimp!), a, b, rfl, rfl, ha, hb, hbase, rfl, ?_⟩
  simp! [gr_obU_iff]
  exact k
def sp_p_leads : DSpec := fun ds M K _ => ∃ a b c : Ur, ds = [obU a, obU b, obU c] ∧ M = [] ∧ a.r.length ≤ 400 ∧ b.r.length ≤ 400 ∧ isBase a = true ∧ K (.bl (decide (joinU a b = c))) []
def rd_p_leads : DS :=
  (dRet (dOp (rEqOwn false "Url" sp_Url___eq__) (dFn (cPure sp_p_join) [] (aCons (dVar 0) (aCons (dVar 1) aNil))) (dVar 2)))
theorem eqU_own {neg : Bool} {a b : Ur} {M : MM} {K : Kd} (k : K (.bl (if neg then !decide (a = b) else decide (a = b))) M) : rEqOwn neg "Url" sp_Url___eq__ (obU a) (obU b) M K :=
  ⟨⟨_, _, rfl⟩, ⟨_, _, rfl⟩, by simp only [List.forall_mem_cons, List.forall_mem_nil, gr_obU_iff, true_and]; exact fun _ h => absurd h List.not_mem_nil, a, b, rfl, rfl, rfl, _, rfl, k⟩
theorem sem_p_leads (ds : List D) (M : MM) (K0 : Kd) (R0 : Kx) (h : sp_p_leads ds M K0 R0) : rd_p_leads (endG M.length K0 R0) (startG 3 ds) M := by
  obtain ⟨a, b, c, rfl, rfl, ha, hb, hbase, k⟩ := h
  unfold rd_p_leads
  simp!
  refine ⟨(by dsimp!), a, b, rfl, rfl, ha, hb, hbase, rfl, ?_⟩
  simp!
  refine eqU_own ?_
  simp!
  exact k
/-! ### the law's own -/
def sp_law_parts : DSpec := spG tpU
def rd_law_parts : DS :=
  (dRet (dTup (aCons (dProp "Url" sp_Url_scheme (dVar 0)) (aCons (dProp "Url" sp_Url_user (dVar 0)) (aCons (dProp "Url" sp_Url_host (dVar 0)) (aCons (dProp "Url" sp_Url_port (dVar 0)) (aCons (dProp "Url" sp_Url_path (dVar 0)) (aCons (dProp "Url" sp_Url_query (dVar 0)) (aCons (dProp "Url" sp_Url_fragment (dVar 0)) aNil)))))))))
theorem sem_law_parts (ds : List D) (M : MM) (K0 : Kd) (R0 : Kx) (h : sp_law_parts ds M K0 R0) : rd_law_parts (endG M.length K0 R0) (startG 1 ds) M := by
  obtain ⟨a, rfl, rfl, k⟩ := h
  unfold rd_law_parts
  simp!
  refine ⟨⟨_, _, rfl⟩, (by dsimp!), a, rfl, rfl, rfl, ?_⟩
  simp!
  refine ⟨⟨_, _, rfl⟩, (by dsimp!), a, rfl, rfl, rfl, ?_⟩
  simp!
  refine ⟨⟨_, _, rfl⟩, (by dsimp!), a, rfl, rfl, rfl, ?_⟩
  simp!
  refine ⟨⟨_, _, rfl⟩, (by dsimp!), a, rfl, rfl, rfl, ?_⟩
  simp!
  refine ⟨⟨_, _, rfl⟩, (by dsimp!), a, rfl, rfl, rfl, ?_⟩
  simp!
  refine ⟨⟨_, _, rfl⟩, (by dsimp!), a, rfl, rfl, rfl, ?_⟩
  simp!
  refine ⟨⟨_, _, rfl⟩, (by dsimp!), a, rfl, rfl, rfl, ?_⟩
  simp! [gr_tpU_iff]
  exact k
def gD_Url_of_Kscheme_user_host_port_path_query_fragment : List D → List D := fun es => .cl "Url" :: es
def sp_law_url : DSpec := fun ds M K _ => ∃ a : Ur, ds = [tpU a] ∧ M = [] ∧ UrOk a ∧ K (obU a) []
def rd_law_url : DS :=
  (dRet (dCM "Url" (cPure sp_Url_of) gD_Url_of_Kscheme_user_host_port_path_query_fragment 7 (dC (.cl "Url")) (aCons (dOp rIxD (dVar 0) (dC (.int 0))) (aCons (dOp rIxD (dVar 0) (dC (.int 1))) (aCons (dOp rIxD (dVar 0) (dC (.int 2))) (aCons (dOp rIxD (dVar 0) (dC (.int 3))) (aCons (dOp rIxD (dVar 0) (dC (.int 4))) (aCons (dOp rIxD (dVar 0) (dC (.int 5))) (aCons (dOp rIxD (dVar 0) (dC (.int 6))) aNil)))))))))
theorem sem_law_url (ds : List D) (M : MM) (K0 : Kd) (R0 : Kx) (h : sp_law_url ds M K0 R0) : rd_law_url (endG M.length K0 R0) (startG 1 ds) M := by
  obtain ⟨a, rfl, rfl, ok, k⟩ := h
  unfold rd_law_url
  simp! [atI_3, atI_4, atI_5, atI_6]
  unfold gD_Url_of_Kscheme_user_host_port_path_query_fragment
  refine ⟨(by dsimp!), a, rfl, rfl, ok, rfl, ?_⟩
  simp! [gr_obU_iff]
  exact k
end L3

namespace L3
open PySem PySem.Spec PyProof.Rows L2 Evl
open Classical
local macro_rules | `(tactic| simp!) => `(tactic| try simp only [↓e_while, ↓e_var, ↓e_c, ↓e_op, ↓e_nil, ↓e_cons, ↓e_tup, ↓e_lst, ↓e_lstC, ↓e_tru, ↓e_qnot, ↓e_qand, ↓e_qor, ↓e_qyes, ↓e_if, ↓e_not, ↓e_and, ↓e_or, ↓e_neg, ↓e_chain, ↓e_call, ↓e_no, ↓e_part, ↓e_sl, ↓e_slC, ↓e_fn, ↓e_fn0, ↓e_fnK, ↓e_m0, ↓e_m, ↓e_frz, ↓e_fz, ↓e_app, ↓e_lc, ↓e_esc, ↓e_next, ↓e_seq, ↓e_ret, ↓e_retN, ↓e_drop, ↓e_set, ↓e_ifS, ↓e_brk, ↓e_cnt, ↓e_par, ↓e_aug, ↓e_setIx, ↓e_for, ↓e_unp, ↓e_nm, ↓e_tgt, ↓e_iLst, ↓e_iTp, ↓e_iStr, ↓e_iR1, ↓isR1_s, ↓e_iR2, ↓isR2_s, ↓e_iEn, ↓isEn_s, ↓e_iEnS, ↓isEnS_s, ↓r_addI, ↓r_addS, ↓r_addT, ↓r_addL, ↓r_iaddI, ↓r_iaddS, ↓r_sub, ↓r_mulI, ↓r_mulL, ↓r_mod, ↓r_fdiv, ↓r_pow, ↓r_ordI, ↓r_ordS, ↓r_is, ↓r_inS, ↓r_ixS, ↓r_ixL, ↓r_ixR, ↓r_ixT, ↓r_ixC, ↓r_slS, ↓r_slT, ↓r_slL, ↓r_slR, ↓r_lenS, ↓r_lenL, ↓r_lenT, ↓r_lenR, ↓r_abs, ↓r_max, ↓r_min, ↓r_intI, ↓r_intB, ↓r_ord, ↓r_listL, ↓r_listT, ↓r_tupL, ↓r_tupT, ↓r_split, ↓r_part, ↓r_join, ↓r_joinC, ↓r_starts, ↓r_ends, ↓r_lower, ↓r_upper, ↓r_rfind, ↓r_index, ↓r_all, ↓r_any, ↓r_sum, ↓r_hex, ↓r_isi, ↓r_eqS, ↓r_neS, ↓r_eqI, ↓r_neI, ↓r_eqB, ↓r_neB, ↓r_eqL, ↓r_neL, ↓r_eqL0, ↓r_neL0, ↓t_s, ↓r_eq00, ↓r_ne00, ↓gets_s, ↓gets_n, ↓onS_s, ↓onI_s, ↓onC_s, ↓onB_s, ↓onL_s, ↓thenP_t, ↓ifI_t, ↓ifI_f, ifI_t, ifI_f, gets_s, gets_n, onS_s, onI_s, onC_s, onB_s, onL_s, thenP_t, gets_if, endG_rt, endG_rz, endG_nx, endN_rt, has_ls1, has_ls2, startG, wipeG, setAll, cut_from1, cut_init, atI_0, atI_1, atI_2, atI_last, List.map_cons, List.map_nil, List.cons_append, List.nil_append, List.append_nil, List.replicate, List.getElem?_cons_zero, List.getElem?_cons_succ, List.getElem?_nil, List.set_cons_zero, List.set_cons_succ, List.length_cons, List.length_nil, List.length_map, List.length_append, Nat.zero_add, Nat.sub_zero, Nat.reduceSub, Nat.reduceAdd, Nat.reduceLeDiff, List.isEmpty_cons, List.isEmpty_nil, true_and, and_true, if_true, if_false, reduceIte, Bool.not_true, Bool.not_false, Bool.not_not, Bool.false_eq_true, reduceCtorEq, List.forall_mem_cons, List.forall_mem_nil, implies_true, List.mem_singleton, decide_eq_true_eq, Bool.not_eq_true', decide_eq_false_iff_not, okM0_iff, okM1c, List.take_zero, List.take_succ_cons, gr_str_iff, gr_int_iff, gr_bl_iff, gr_non_iff, gr_lss_iff, gr_ls0_iff, lsOf_ls, lsOf_rl, lsOf_c, sqOf_ls, sqOf_rl, sqOf_tp, sqOf_c, lsOwn_ls, lsOwn_c, tpOf_tp, truD_ls, truD_rl, truD_tp, truD_bl, truD_int, truD_non, isNon, tyD, get_snoc, set_snoc, not_true_eq_false, not_false_eq_true, Option.some.injEq, Int.reduceLT, Int.reduceLE, Int.reduceNeg, Int.reducePow, Int.reduceToNat, and_self, atI_nat, inS_one, ↓e_tab, ↓r_isBl, ↓r_isiO, ↓e_prop, ↓e_mk, ↓e_mkL, ↓e_meth, ↓e_cval, ↓e_cm, ↓e_setF, ↓e_zp, ↓e_enSK, ↓e_par3, ↓r_find, ↓e_asg3, ↓e_dispC, ↓e_dtIx, ↓onDt_s, ↓e_get2, ↓e_tabG, ↓tabGI_s, ↓tabGI_n, ↓r_lstrip, ↓e_unpL])
local macro_rules | `(tactic| simp! [$xs,*]) => `(tactic| try simp only [↓e_while, ↓e_var, ↓e_c, ↓e_op, ↓e_nil, ↓e_cons, ↓e_tup, ↓e_lst, ↓e_lstC, ↓e_tru, ↓e_qnot, ↓e_qand, ↓e_qor, ↓e_qyes, ↓e_if, ↓e_not, ↓e_and, ↓e_or, ↓e_neg, ↓e_chain, ↓e_call, ↓e_no, ↓e_part, ↓e_sl, ↓e_slC, ↓e_fn, ↓e_fn0, ↓e_fnK, ↓e_m0, ↓e_m, ↓e_frz, ↓e_fz, ↓e_app, ↓e_lc, ↓e_esc, ↓e_next, ↓e_seq, ↓e_ret, ↓e_retN, ↓e_drop, ↓e_set, ↓e_ifS, ↓e_brk, ↓e_cnt, ↓e_par, ↓e_aug, ↓e_setIx, ↓e_for, ↓e_unp, ↓e_nm, ↓e_tgt, ↓e_iLst, ↓e_iTp, ↓e_iStr, ↓e_iR1, ↓isR1_s, ↓e_iR2, ↓isR2_s, ↓e_iEn, ↓isEn_s, ↓e_iEnS, ↓isEnS_s, ↓r_addI, ↓r_addS, ↓r_addT, ↓r_addL, ↓r_iaddI, ↓r_iaddS, ↓r_sub, ↓r_mulI, ↓r_mulL, ↓r_mod, ↓r_fdiv, ↓r_pow, ↓r_ordI, ↓r_ordS, ↓r_is, ↓r_inS, ↓r_ixS, ↓r_ixL, ↓r_ixR, ↓r_ixT, ↓r_ixC, ↓r_slS, ↓r_slT, ↓r_slL, ↓r_slR, ↓r_lenS, ↓r_lenL, ↓r_lenT, ↓r_lenR, ↓r_abs, ↓r_max, ↓r_min, ↓r_intI, ↓r_intB, ↓r_ord, ↓r_listL, ↓r_listT, ↓r_tupL, ↓r_tupT, ↓r_split, ↓r_part, ↓r_join, ↓r_joinC, ↓r_starts, ↓r_ends, ↓r_lower, ↓r_upper, ↓r_rfind, ↓r_index, ↓r_all, ↓r_any, ↓r_sum, ↓r_hex, ↓r_isi, ↓r_eqS, ↓r_neS, ↓r_eqI, ↓r_neI, ↓r_eqB, ↓r_neB, ↓r_eqL, ↓r_neL, ↓r_eqL0, ↓r_neL0, ↓t_s, ↓r_eq00, ↓r_ne00, ↓gets_s, ↓gets_n, ↓onS_s, ↓onI_s, ↓onC_s, ↓onB_s, ↓onL_s, ↓thenP_t, ↓ifI_t, ↓ifI_f, ifI_t, ifI_f, gets_s, gets_n, onS_s, onI_s, onC_s, onB_s, onL_s, thenP_t, gets_if, endG_rt, endG_rz, endG_nx, endN_rt, has_ls1, has_ls2, startG, wipeG, setAll, cut_from1, cut_init, atI_0, atI_1, atI_2, atI_last, List.map_cons, List.map_nil, List.cons_append, List.nil_append, List.append_nil, List.replicate, List.getElem?_cons_zero, List.getElem?_cons_succ, List.getElem?_nil, List.set_cons_zero, List.set_cons_succ, List.length_cons, List.length_nil, List.length_map, List.length_append, Nat.zero_add, Nat.sub_zero, Nat.reduceSub, Nat.reduceAdd, Nat.reduceLeDiff, List.isEmpty_cons, List.isEmpty_nil, true_and, and_true, if_true, if_false, reduceIte, Bool.not_true, Bool.not_false, Bool.not_not, Bool.false_eq_true, reduceCtorEq, List.forall_mem_cons, List.forall_mem_nil, implies_true, List.mem_singleton, decide_eq_true_eq, Bool.not_eq_true', decide_eq_false_iff_not, okM0_iff, okM1c, List.take_zero, List.take_succ_cons, gr_str_iff, gr_int_iff, gr_bl_iff, gr_non_iff, gr_lss_iff, gr_ls0_iff, lsOf_ls, lsOf_rl, lsOf_c, sqOf_ls, sqOf_rl, sqOf_tp, sqOf_c, lsOwn_ls, lsOwn_c, tpOf_tp, truD_ls, truD_rl, truD_tp, truD_bl, truD_int, truD_non, isNon, tyD, get_snoc, set_snoc, not_true_eq_false, not_false_eq_true, Option.some.injEq, Int.reduceLT, Int.reduceLE, Int.reduceNeg, Int.reducePow, Int.reduceToNat, and_self, atI_nat, inS_one, ↓e_tab, ↓r_isBl, ↓r_isiO, ↓e_prop, ↓e_mk, ↓e_mkL, ↓e_meth, ↓e_cval, ↓e_cm, ↓e_setF, ↓e_zp, ↓e_enSK, ↓e_par3, ↓r_find, ↓e_asg3, ↓e_dispC, ↓e_dtIx, ↓onDt_s, ↓e_get2, ↓e_tabG, ↓tabGI_s, ↓tabGI_n, ↓r_lstrip, ↓e_unpL, $xs,*])
local macro_rules | `(tactic| dsimp!) => `(tactic| simp only [List.forall_mem_cons, List.forall_mem_nil, List.mem_singleton, forall_eq, implies_true, and_true, true_and, gr_str_iff, gr_int_iff, gr_bl_iff, gr_non_iff, gr_lss_iff, gr_ls0_iff, gr_opt_iff, gr_ints_iff, gr_rl_iff, gr_tpU_iff, gr_obU_iff, gr_cl_iff, gr_tp0_iff, gr_tpc_iff, gr_lsc_iff])
/-! ### rules: signs, octets, normal texts -/
abbrev plainS : Tx := [45, 46, 48, 49, 50, 51, 52, 53, 54, 55, 56, 57, 65, 66, 67, 68, 69, 70, 71, 72, 73, 74, 75, 76, 77, 78, 79, 80, 81, 82, 83, 84, 85, 86, 87, 88, 89, 90, 95, 97, 98, 99, 100, 101, 102, 103, 104, 105, 106, 107, 108, 109, 110, 111, 112, 113, 114, 115, 116, 117, 118, 119, 120, 121, 122, 126]
def plS (o : Nat) : Tx := plainS.filter (· == o)
theorem jn_flat : ∀ l : List Tx, jn [] l = l.flatten
  | [] => rfl
  | [a] => by simp [jn]
  | a :: b :: r => by
    show a ++ [] ++ jn [] (b :: r) = _
    rw [jn_flat (b :: r), List.append_nil]
    rfl
theorem flat_ones : ∀ l : Tx, (l.map fun c => [c]).flatten = l
  | [] => rfl
  | a :: r => by
    rw [List.map_cons, List.flatten_cons, flat_ones r]
    rfl
theorem sum_ones : ∀ l : Tx, ((l.map fun c => [c]).map List.length).sum = l.length
  | [] => rfl
  | a :: r => by
    simp only [List.map_cons, List.sum_cons, sum_ones r, List.length_cons, List.length_nil]
    omega
def sp_p_plain_sign : DSpec := fun ds M K _ => ∃ o : Nat, ds = [.int o] ∧ M = [] ∧ K (.str (plS o)) []
def rd_p_plain_sign : DS :=
  (dRet (dM mJoin (dC (.str [])) (aCons (dLc (iStr' (dC (.str [45, 46, 48, 49, 50, 51, 52, 53, 54, 55, 56, 57, 65, 66, 67, 68, 69, 70, 71, 72, 73, 74, 75, 76, 77, 78, 79, 80, 81, 82, 83, 84, 85, 86, 87, 88, 89, 90, 95, 97, 98, 99, 100, 101, 102, 103, 104, 105, 106, 107, 108, 109, 110, 111, 112, 113, 114, 115, 116, 117, 118, 119, 120, 121, 122, 126]))) (Tgt.nm 1) (qTru (dOp (rEqD' false) (dCall rOrd (aCons (dVar 1) aNil)) (dVar 0))) (dVar 1) [1]) aNil)))
theorem plS_len (o : Nat) : (plS o).length ≤ 67 := Nat.le_trans (List.length_filter_le _ _) (by decide)
theorem sem_p_plain_sign (ds : List D) (M : MM) (K0 : Kd) (R0 : Kx) (h : sp_p_plain_sign ds M K0 R0) : rd_p_plain_sign (endG M.length K0 R0) (startG 2 ds) M := by
  obtain ⟨o, rfl, rfl, k⟩ := h
  unfold rd_p_plain_sign
  simp!
  refine comp_fm (enc := fun c => .str [c]) (p := fun c => c == o) (g := fun c => .str [c]) plainS (by first | trivial | rfl) (by decide) (fun c hc Y Z h1 h2 => ?_) ?_
  · simp!
    by_cases e : c = o
    · rw [if_pos (by omega)]
      simp!
      exact h1 (by simpa using e)
    · rw [if_neg (by omega)]
      exact h2 (by simpa using e)
  · have e : ((plainS.filter (· == o)).map fun c => D.str [c]) = ((plS o).map fun c => [c]).map .str := by rw [List.map_map]; rfl
    rw [e]
    simp!
    have := plS_len o
    refine ⟨by rw [sum_ones]; omega, ?_⟩
    simp!
    rw [jn_flat, flat_ones]
    exact k
/-! octet_at -/
def escVal (t : Tx) (i : Nat) : Nat := Hx.hexNum ((t.drop (i + 1)).take 2)
theorem hexB_is {c : Nat} (h : isHexB c = true) : Hx.IsHex c := by
  unfold isHexB at h
  unfold Hx.IsHex
  simp only [decide_eq_true_eq, Bool.or_eq_true] at h
  omega
theorem escAt_parts {t : Tx} {i : Nat} (h : escAt t i = true) : ((t.drop (i + 1)).take 2).length = 2 ∧ ∀ c ∈ (t.drop (i + 1)).take 2, isHexB c = true := by
  unfold escAt at h
  rw [Bool.and_eq_true, Bool.and_eq_true, beq_iff_eq, beq_iff_eq] at h
  exact ⟨h.1.2, fun c hc => List.all_eq_true.mp h.2 c hc⟩
def sp_p_octet_at : DSpec := fun ds M K _ => ∃ (t : Tx) (i : Nat), ds = [.str t, .int i] ∧ M = [] ∧ t.length ≤ 100000 ∧ escAt t i = true ∧ K (.int (escVal t i : Nat)) []
def rd_p_octet_at : DS :=
  (dRet (dCall rHex (aCons (dSl (dVar 0) (dPart (dOp rAddD (dVar 1) (dC (.int 1)))) (dPart (dOp rAddD (dVar 1) (dC (.int 3))))) (aCons (dC (.int 16)) aNil))))
theorem sem_p_octet_at (ds : List D) (M : MM) (K0 : Kd) (R0 : Kx) (h : sp_p_octet_at ds M K0 R0) : rd_p_octet_at (endG M.length K0 R0) (startG 2 ds) M := by
  obtain ⟨t, i, rfl, rfl, ht, he, k⟩ := h
  obtain ⟨h1, h2⟩ := escAt_parts he
  have e3 : cut t (some ((i : Int) + 1)) (some ((i : Int) + 3)) = (t.drop (i + 1)).take 2 := cut_add t i 1 3
  unfold rd_p_octet_at
  simp! [e3]
  refine ⟨by omega, ?_⟩
  simp! [e3]
  refine ⟨⟨(fun z => by rw [z] at h1; cases h1), by omega, fun c hc => hexB_is (h2 c hc)⟩, ?_⟩
  simp!
  rw [e3]
  exact k
/-! normal_text -/
/-- a unit: a sign, or an escape -/
def unitN (sm : Bool) : Tx → Tx
  | [94, a, b] => let s := plS (Hx.hexNum [a, b]); let s' := if sm then s.map lowC else s; if s' = [] then [uppC 94, uppC a, uppC b] else s'
  | u => if sm then u.map lowC else u
def normT (sm : Bool) : Tx → Tx
  | 94 :: a :: b :: r => unitN sm [94, a, b] ++ normT sm r
  | c :: r => unitN sm [c] ++ normT sm r
  | [] => []
theorem unitN_esc (sm : Bool) (a b : Nat) : unitN sm [94, a, b] = (if (if sm then (plS (Hx.hexNum [a, b])).map lowC else plS (Hx.hexNum [a, b])) = [] then [uppC 94, uppC a, uppC b] else (if sm then (plS (Hx.hexNum [a, b])).map lowC else plS (Hx.hexNum [a, b]))) := rfl
theorem unitN_one (sm : Bool) (c : Nat) : unitN sm [c] = if sm then [lowC c] else [c] := by
  simp [unitN]
theorem normT_one {sm : Bool} {c : Nat} (h : c ≠ 94) (r : Tx) : normT sm (c :: r) = unitN sm [c] ++ normT sm r := by
  conv => lhs; unfold normT
  split
  · rename_i q
    cases q
    exact absurd rfl h
  · rename_i q
    cases q
    rfl
  · rename_i q
    cases q
theorem normT_units {A : Tx} (h94 : 94 ∉ A) (sm : Bool) : ∀ us : List Tx, (∀ u ∈ us, UnitOk A u) → normT sm us.flatten = (us.map (unitN sm)).flatten
  | [], _ => rfl
  | u :: us, h => by
    have ih := normT_units h94 sm us fun x hx => h x (List.mem_cons_of_mem _ hx)
    rcases h u List.mem_cons_self with ⟨c, rfl, hc⟩ | ⟨a, b, rfl, ha, hb⟩
    · show normT sm (c :: us.flatten) = _
      rw [normT_one (fun z => h94 (z ▸ hc)), ih]
      rfl
    · show normT sm (94 :: a :: b :: us.flatten) = _
      rw [normT, ih]
      rfl
theorem unitN_len {A : Tx} (sm : Bool) {u : Tx} (h : UnitOk A u) : (unitN sm u).length ≤ 67 := by
  rcases h with ⟨c, rfl, hc⟩ | ⟨a, b, rfl, ha, hb⟩
  · rw [unitN_one]
    cases sm <;> simp
  · rw [unitN_esc]
    have h1 := plS_len (Hx.hexNum [a, b])
    have h2 : ∀ s : Tx, s.length ≤ 67 → (if s = [] then [uppC 94, uppC a, uppC b] else s).length ≤ 67 := fun s hs => by
      split
      · simp
      · exact hs
    exact h2 _ (by cases sm <;> simpa using h1)
theorem units_len {A : Tx} : ∀ us : List Tx, (∀ u ∈ us, UnitOk A u) → us.length ≤ us.flatten.length
  | [], _ => Nat.zero_le _
  | u :: us, h => by
    have ih := units_len us fun x hx => h x (List.mem_cons_of_mem _ hx)
    rcases h u List.mem_cons_self with ⟨c, rfl, hc⟩ | ⟨a, b, rfl, ha, hb⟩ <;>
    · simp only [List.flatten_cons, List.length_append, List.length_cons, List.length_nil]
      omega
theorem sum_units {A : Tx} (sm : Bool) : ∀ us : List Tx, (∀ u ∈ us, UnitOk A u) → ((us.map (unitN sm)).map List.length).sum ≤ 67 * us.length
  | [], _ => Nat.zero_le _
  | u :: us, h => by
    have ih := sum_units sm us fun x hx => h x (List.mem_cons_of_mem _ hx)
    have h1 := unitN_len sm (h u List.mem_cons_self)
    simp only [List.map_cons, List.sum_cons, List.length_cons]
    omega
theorem cut_i1 (t : Tx) (i : Nat) : cut t (some (i : Int)) (some ((i : Int) + 1)) = (t.drop i).take 1 := by
  have := cut_add t i 0 1
  simpa using this
theorem cut_i3 (t : Tx) (i : Nat) : cut t (some (i : Int)) (some ((i : Int) + 3)) = (t.drop i).take 3 := by
  have := cut_add t i 0 3
  simpa using this
def sp_p_normal_text : DSpec := fun ds M K _ => ∃ (t A : Tx) (sm : Bool), ds = [.str t, .bl sm] ∧ M = [] ∧ t.length ≤ 10000 ∧ 94 ∉ A ∧ RtA A t ∧ K (.str (normT sm t)) []
def dv_p_normal_text_D1 : List D := [.bl false]
def gD_p_normal_text_Kis_small : List D → List D → List D := fun a b => a ++ b
def lb0_p_normal_text : DS :=
  (dSeq (dSet 4 (dIf (qTru (dOp (rEqD' false) (dOp rIxD (dVar 0) (dVar 3)) (dC (.str [94])))) (dC (.int 3)) (dC (.int 1))))
    (dSeq (dSet 5 (dSl (dVar 0) (dPart (dVar 3)) (dPart (dOp rAddD (dVar 3) (dVar 4)))))
    (dSeq (dSet 6 (dIf (qTru (dOp rGtD (dVar 4) (dC (.int 1)))) (dFn (cPure sp_p_plain_sign) [] (aCons (dFn (cPure sp_p_octet_at) [] (aCons (dVar 0) (aCons (dVar 3) aNil))) aNil)) (dVar 5)))
    (dSeq (dSet 7 (dIf (qTru (dVar 1)) (dM0 mLower (dVar 6)) (dVar 6)))
    (dSeq (dDrop (dApp (dVar 2) (dIf (qTru (dOp (rEqD' true) (dVar 7) (dC (.str [])))) (dVar 7) (dM0 mUpper (dVar 5)))))
    (dSet 3 (dOp rAddD (dVar 3) (dVar 4))))))))
def rd_p_normal_text : DS :=
  (dSeq (dSet 2 (dLstC aNil))
    (dSeq (dSet 3 (dC (.int 0)))
    (dSeq (dWhile (qTru (dOp rLtD (dVar 3) (dCall rLen (aCons (dVar 0) aNil)))) lb0_p_normal_text)
    (dRet (dM mJoin (dC (.str [])) (aCons (dVar 2) aNil))))))
theorem sem_p_normal_text (ds : List D) (M : MM) (K0 : Kd) (R0 : Kx) (h : sp_p_normal_text ds M K0 R0) : rd_p_normal_text (endG M.length K0 R0) (startG 8 ds) M := by
  obtain ⟨t, A, sm, rfl, rfl, ht, h94, ⟨us, hu, rfl⟩, k⟩ := h
  have hul := units_len us hu
  unfold rd_p_normal_text
  refine seq_g fun N0 hN0 => ?_
  simp!
  rw [hN0]
  refine seq_g fun N1 hN1 => ?_
  simp!
  rw [hN1]
  refine seq_g fun N2 hN2 => ?_
  simp!
  refine while_ind (P := fun m Γ M => ∃ pre post o4 o5 o6 o7, M = [.ls ((pre.map (unitN sm)).map .str)] ∧ us = pre ++ post ∧ m = post.length ∧ Γ = [some (.str us.flatten), some (.bl sm), some (.cel 0), some (.int (pre.flatten.length : Nat)), o4, o5, o6, o7]) us.length ⟨[], us, none, none, none, none, rfl, rfl, rfl, rfl⟩ ?_
  rintro m Γ M N hN ⟨pre, post, o4, o5, o6, o7, rfl, e, rfl, rfl⟩
  simp!
  have el : us.flatten = pre.flatten ++ post.flatten := by rw [e, List.flatten_append]
  have el2 := congrArg List.length el
  rw [List.length_append] at el2
  refine ⟨by omega, ?_⟩
  simp!
  cases post with
  | nil =>
    have q : us.flatten.length = pre.flatten.length := by rw [el2]; rfl
    rw [q, if_neg (by omega)]
    rw [List.append_nil] at e
    subst e
    rw [hN2]
    simp!
    have := sum_units sm us hu
    refine ⟨us.map (unitN sm), rfl, (by show ((us.map (unitN sm)).map List.length).sum + _ * 0 ≤ 16777216; omega), ?_⟩
    rw [jn_flat, ← normT_units h94 sm us hu]
    simp!
    exact k
  | cons u post =>
    have hu' := hu u (by rw [e]; simp)
    have hlt : pre.flatten.length < us.flatten.length := by
      have : ((u :: post) : List Tx).flatten.length ≠ 0 := by
        rcases hu' with ⟨c, rfl, hc⟩ | ⟨a, b, rfl, ha, hb⟩ <;> simp
      omega
    have hpl : pre.length ≤ us.length := by rw [e]; simp
    have d1 : us.flatten.drop pre.flatten.length = u ++ post.flatten := by
      rw [el, List.drop_left]
      rfl
    have go : ∀ (x : Int) (o4 o5 o6 o7 : Option D), x = ((pre.flatten.length + u.length : Nat) : Int) → N [some (.str us.flatten), some (.bl sm), some (.cel 0), some (.int x), o4, o5, o6, o7] [.ls ((pre.map (unitN sm)).map .str ++ [.str (unitN sm u)])] := fun x o4 o5 o6 o7 hx => hN post.length _ _ (by simp) ⟨pre ++ [u], post, o4, o5, o6, o7, by rw [List.map_append, List.map_append]; rfl, by rw [e]; simp, rfl, by rw [hx, List.flatten_append, List.length_append]; simp⟩
    rw [if_pos (by omega)]
    unfold lb0_p_normal_text
    have g0 : us.flatten[pre.flatten.length]? = (u ++ post.flatten)[0]? := by rw [← d1, List.getElem?_drop]; rfl
    simp!
    refine ⟨by omega, ?_⟩
    simp!
    rcases hu' with ⟨c, rfl, hc⟩ | ⟨a, b, rfl, ha, hb⟩
    · have hc94 : c ≠ 94 := fun z => h94 (z ▸ hc)
      refine gets_i g0 ?_
      have e3 : cut us.flatten (some ((pre.flatten.length : Nat) : Int)) (some (((pre.flatten.length : Nat) : Int) + 1)) = [c] := by
        rw [cut_i1, d1]
        rfl
      simp!
      rw [ifI_m (fun z => hc94 (by simpa using z))]
      simp!
      refine ⟨by omega, ?_⟩
      rw [e3]
      simp!
      rw [unitN_one] at go
      cases sm with
      | true =>
        simp only [reduceIte] at go
        simp!
        refine ⟨by omega, ?_⟩
        simp!
        refine go _ _ _ _ _ ?_
        simp
      | false =>
        simp only [reduceIte, Bool.false_eq_true] at go
        simp!
        refine ⟨by omega, ?_⟩
        simp!
        refine go _ _ _ _ _ ?_
        simp
    · refine gets_i g0 ?_
      have e3 : cut us.flatten (some ((pre.flatten.length : Nat) : Int)) (some (((pre.flatten.length : Nat) : Int) + 3)) = [94, a, b] := by
        rw [cut_i3, d1]
        rfl
      simp!
      refine ⟨by omega, ?_⟩
      rw [e3]
      simp!
      have hx : escAt us.flatten pre.flatten.length = true := by
        unfold escAt
        have d2 : us.flatten.drop (pre.flatten.length + 1) = a :: b :: post.flatten := by
          rw [← List.drop_drop, d1]
          rfl
        rw [d1, d2]
        simp [ha, hb]
      have hv : escVal us.flatten pre.flatten.length = Hx.hexNum [a, b] := by
        unfold escVal
        rw [← List.drop_drop, d1]
        rfl
      refine ⟨(by dsimp!), us.flatten, pre.flatten.length, rfl, rfl, by omega, hx, rfl, ?_⟩
      rw [hv]
      simp!
      refine ⟨(by dsimp!), Hx.hexNum [a, b], rfl, rfl, rfl, ?_⟩
      simp!
      rw [unitN_esc] at go
      have h1 := plS_len (Hx.hexNum [a, b])
      generalize plS (Hx.hexNum [a, b]) = s at go h1
      have h3 : ([94, a, b] : Tx).map uppC = [uppC 94, uppC a, uppC b] := rfl
      cases sm with
      | true =>
        simp only [reduceIte] at go
        simp!
        refine ⟨by omega, ?_⟩
        simp!
        refine ifI_i (fun z => ?_) fun z => ?_
        · rw [if_neg z] at go
          simp!
          refine ⟨by omega, ?_⟩
          simp!
          refine go _ _ _ _ _ ?_
          simp
        · rw [if_pos (Classical.not_not.mp z), ← h3] at go
          simp! [h3]
          refine ⟨by omega, ?_⟩
          simp! [h3]
          refine go _ _ _ _ _ ?_
          simp
      | false =>
        simp only [reduceIte, Bool.false_eq_true] at go
        simp!
        refine ifI_i (fun z => ?_) fun z => ?_
        · rw [if_neg z] at go
          simp!
          refine ⟨by omega, ?_⟩
          simp!
          refine go _ _ _ _ _ ?_
          simp
        · rw [if_pos (Classical.not_not.mp z), ← h3] at go
          simp! [h3]
          refine ⟨by omega, ?_⟩
          simp! [h3]
          refine go _ _ _ _ _ ?_
          simp
end L3

namespace L3
open PySem PySem.Spec PyProof.Rows L2 Evl
open Classical
local macro_rules | `(tactic| simp!) => `(tactic| try simp only [↓e_while, ↓e_var, ↓e_c, ↓e_op, ↓e_nil, ↓e_cons, ↓e_tup, ↓e_lst, ↓e_lstC, ↓e_tru, ↓e_qnot, ↓e_qand, ↓e_qor, ↓e_qyes, ↓e_if, ↓e_not, ↓e_and, ↓e_or, ↓e_neg, ↓e_chain, ↓e_call, ↓e_no, ↓e_part, ↓e_sl, ↓e_slC, ↓e_fn, ↓e_fn0, ↓e_fnK, ↓e_m0, ↓e_m, ↓e_frz, ↓e_fz, ↓e_app, ↓e_lc, ↓e_esc, ↓e_next, ↓e_seq, ↓e_ret, ↓e_retN, ↓e_drop, ↓e_set, ↓e_ifS, ↓e_brk, ↓e_cnt, ↓e_par, ↓e_aug, ↓e_setIx, ↓e_for, ↓e_unp, ↓e_nm, ↓e_tgt, ↓e_iLst, ↓e_iTp, ↓e_iStr, ↓e_iR1, ↓isR1_s, ↓e_iR2, ↓isR2_s, ↓e_iEn, ↓isEn_s, ↓e_iEnS, ↓isEnS_s, ↓r_addI, ↓r_addS, ↓r_addT, ↓r_addL, ↓r_iaddI, ↓r_iaddS, ↓r_sub, ↓r_mulI, ↓r_mulL, ↓r_mod, ↓r_fdiv, ↓r_pow, ↓r_ordI, ↓r_ordS, ↓r_is, ↓r_inS, ↓r_ixS, ↓r_ixL, ↓r_ixR, ↓r_ixT, ↓r_ixC, ↓r_slS, ↓r_slT, ↓r_slL, ↓r_slR, ↓r_lenS, ↓r_lenL, ↓r_lenT, ↓r_lenR, ↓r_abs, ↓r_max, ↓r_min, ↓r_intI, ↓r_intB, ↓r_ord, ↓r_listL, ↓r_listT, ↓r_tupL, ↓r_tupT, ↓r_split, ↓r_part, ↓r_join, ↓r_joinC, ↓r_starts, ↓r_ends, ↓r_lower, ↓r_upper, ↓r_rfind, ↓r_index, ↓r_all, ↓r_any, ↓r_sum, ↓r_hex, ↓r_isi, ↓r_eqS, ↓r_neS, ↓r_eqI, ↓r_neI, ↓r_eqB, ↓r_neB, ↓r_eqL, ↓r_neL, ↓r_eqL0, ↓r_neL0, ↓t_s, ↓r_eq00, ↓r_ne00, ↓gets_s, ↓gets_n, ↓onS_s, ↓onI_s, ↓onC_s, ↓onB_s, ↓onL_s, ↓thenP_t, ↓ifI_t, ↓ifI_f, ifI_t, ifI_f, gets_s, gets_n, onS_s, onI_s, onC_s, onB_s, onL_s, thenP_t, gets_if, endG_rt, endG_rz, endG_nx, endN_rt, has_ls1, has_ls2, startG, wipeG, setAll, cut_from1, cut_init, atI_0, atI_1, atI_2, atI_last, List.map_cons, List.map_nil, List.cons_append, List.nil_append, List.append_nil, List.replicate, List.getElem?_cons_zero, List.getElem?_cons_succ, List.getElem?_nil, List.set_cons_zero, List.set_cons_succ, List.length_cons, List.length_nil, List.length_map, List.length_append, Nat.zero_add, Nat.sub_zero, Nat.reduceSub, Nat.reduceAdd, Nat.reduceLeDiff, List.isEmpty_cons, List.isEmpty_nil, true_and, and_true, if_true, if_false, reduceIte, Bool.not_true, Bool.not_false, Bool.not_not, Bool.false_eq_true, reduceCtorEq, List.forall_mem_cons, List.forall_mem_nil, implies_true, List.mem_singleton, decide_eq_true_eq, Bool.not_eq_true', decide_eq_false_iff_not, okM0_iff, okM1c, List.take_zero, List.take_succ_cons, gr_str_iff, gr_int_iff, gr_bl_iff, gr_non_iff, gr_lss_iff, gr_ls0_iff, lsOf_ls, lsOf_rl, lsOf_c, sqOf_ls, sqOf_rl, sqOf_tp, sqOf_c, lsOwn_ls, lsOwn_c, tpOf_tp, truD_ls, truD_rl, truD_tp, truD_bl, truD_int, truD_non, isNon, tyD, get_snoc, set_snoc, not_true_eq_false, not_false_eq_true, Option.some.injEq, Int.reduceLT, Int.reduceLE, Int.reduceNeg, Int.reducePow, Int.reduceToNat, and_self, atI_nat, inS_one, ↓e_tab, ↓r_isBl, ↓r_isiO, ↓e_prop, ↓e_mk, ↓e_mkL, ↓e_meth, ↓e_cval, ↓e_cm, ↓e_setF, ↓e_zp, ↓e_enSK, ↓e_par3, ↓r_find, ↓e_asg3, ↓e_dispC, ↓e_dtIx, ↓onDt_s, ↓e_get2, ↓e_tabG, ↓tabGI_s, ↓tabGI_n, ↓r_lstrip, ↓e_unpL])
local macro_rules | `(tactic| simp! [$xs,*]) => `(tactic| try simp only [↓e_while, ↓e_var, ↓e_c, ↓e_op, ↓e_nil, ↓e_cons, ↓e_tup, ↓e_lst, ↓e_lstC, ↓e_tru, ↓e_qnot, ↓e_qand, ↓e_qor, ↓e_qyes, ↓e_if, ↓e_not, ↓e_and, ↓e_or, ↓e_neg, ↓e_chain, ↓e_call, ↓e_no, ↓e_part, ↓e_sl, ↓e_slC, ↓e_fn, ↓e_fn0, ↓e_fnK, ↓e_m0, ↓e_m, ↓e_frz, ↓e_fz, ↓e_app, ↓e_lc, ↓e_esc, ↓e_next, ↓e_seq, ↓e_ret, ↓e_retN, ↓e_drop, ↓e_set, ↓e_ifS, ↓e_brk, ↓e_cnt, ↓e_par, ↓e_aug, ↓e_setIx, ↓e_for, ↓e_unp, ↓e_nm, ↓e_tgt, ↓e_iLst, ↓e_iTp, ↓e_iStr, ↓e_iR1, ↓isR1_s, ↓e_iR2, ↓isR2_s, ↓e_iEn, ↓isEn_s, ↓e_iEnS, ↓isEnS_s, ↓r_addI, ↓r_addS, ↓r_addT, ↓r_addL, ↓r_iaddI, ↓r_iaddS, ↓r_sub, ↓r_mulI, ↓r_mulL, ↓r_mod, ↓r_fdiv, ↓r_pow, ↓r_ordI, ↓r_ordS, ↓r_is, ↓r_inS, ↓r_ixS, ↓r_ixL, ↓r_ixR, ↓r_ixT, ↓r_ixC, ↓r_slS, ↓r_slT, ↓r_slL, ↓r_slR, ↓r_lenS, ↓r_lenL, ↓r_lenT, ↓r_lenR, ↓r_abs, ↓r_max, ↓r_min, ↓r_intI, ↓r_intB, ↓r_ord, ↓r_listL, ↓r_listT, ↓r_tupL, ↓r_tupT, ↓r_split, ↓r_part, ↓r_join, ↓r_joinC, ↓r_starts, ↓r_ends, ↓r_lower, ↓r_upper, ↓r_rfind, ↓r_index, ↓r_all, ↓r_any, ↓r_sum, ↓r_hex, ↓r_isi, ↓r_eqS, ↓r_neS, ↓r_eqI, ↓r_neI, ↓r_eqB, ↓r_neB, ↓r_eqL, ↓r_neL, ↓r_eqL0, ↓r_neL0, ↓t_s, ↓r_eq00, ↓r_ne00, ↓gets_s, ↓gets_n, ↓onS_s, ↓onI_s, ↓onC_s, ↓onB_s, ↓onL_s, ↓thenP_t, ↓ifI_t, ↓ifI_f, ifI_t, ifI_f, gets_s, gets_n, onS_s, onI_s, onC_s, onB_s, onL_s, thenP_t, gets_if, endG_rt, endG_rz, endG_nx, endN_rt, has_ls1, has_ls2, startG, wipeG, setAll, cut_from1, cut_init, atI_0, atI_1, atI_2, atI_last, List.map_cons, List.map_nil, List.cons_append, List.nil_append, List.append_nil, List.replicate, List.getElem?_cons_zero, List.getElem?_cons_succ, List.getElem?_nil, List.set_cons_zero, List.set_cons_succ, List.length_cons, List.length_nil, List.length_map, List.length_append, Nat.zero_add, Nat.sub_zero, Nat.reduceSub, Nat.reduceAdd, Nat.reduceLeDiff, List.isEmpty_cons, List.isEmpty_nil, true_and, and_true, if_true, if_false, reduceIte, Bool.not_true, Bool.not_false, Bool.not_not, Bool.false_eq_true, reduceCtorEq, List.forall_mem_cons, List.forall_mem_nil, implies_true, List.mem_singleton, decide_eq_true_eq, Bool.not_eq_true', decide_eq_false_iff_not, okM0_iff, okM1c, List.take_zero, List.take_succ_cons, gr_str_iff, gr_int_iff, gr_bl_iff, gr_non_iff, gr_lss_iff, gr_ls0_iff, lsOf_ls, lsOf_rl, lsOf_c, sqOf_ls, sqOf_rl, sqOf_tp, sqOf_c, lsOwn_ls, lsOwn_c, tpOf_tp, truD_ls, truD_rl, truD_tp, truD_bl, truD_int, truD_non, isNon, tyD, get_snoc, set_snoc, not_true_eq_false, not_false_eq_true, Option.some.injEq, Int.reduceLT, Int.reduceLE, Int.reduceNeg, Int.reducePow, Int.reduceToNat, and_self, atI_nat, inS_one, ↓e_tab, ↓r_isBl, ↓r_isiO, ↓e_prop, ↓e_mk, ↓e_mkL, ↓e_meth, ↓e_cval, ↓e_cm, ↓e_setF, ↓e_zp, ↓e_enSK, ↓e_par3, ↓r_find, ↓e_asg3, ↓e_dispC, ↓e_dtIx, ↓onDt_s, ↓e_get2, ↓e_tabG, ↓tabGI_s, ↓tabGI_n, ↓r_lstrip, ↓e_unpL, $xs,*])
local macro_rules | `(tactic| dsimp!) => `(tactic| simp only [List.forall_mem_cons, List.forall_mem_nil, List.mem_singleton, forall_eq, implies_true, and_true, true_and, gr_str_iff, gr_int_iff, gr_bl_iff, gr_non_iff, gr_lss_iff, gr_ls0_iff, gr_opt_iff, gr_ints_iff, gr_rl_iff, gr_tpU_iff, gr_obU_iff, gr_cl_iff, gr_tp0_iff, gr_tpc_iff, gr_lsc_iff])
/-! ### normal ports, paths, urls -/
theorem eq_opt : EqOk 0 optD := ⟨fun n _ a => pl_opt n a, fun n _ a b h => by rw [nrm_opt, nrm_opt] at h; exact optD_inj h, fun a j h => by cases a <;> cases h⟩
theorem r_eqO {neg : Bool} {M : MM} {K : Kd} {a b : Option Tx} : opI (rEqD' neg) (optD a) (optD b) M (b := ⟨K⟩) = K (.bl (if neg then !decide (a = b) else decide (a = b))) M := propext (eq_opt.eq (neg := neg))
theorem r_eqSO {neg : Bool} {M : MM} {K : Kd} {a : Tx} {b : Option Tx} : opI (rEqD' neg) (.str a) (optD b) M (b := ⟨K⟩) = K (.bl (if neg then !decide (some a = b) else decide (some a = b))) M := r_eqO (a := some a)
theorem r_eqOS {neg : Bool} {M : MM} {K : Kd} {a : Option Tx} {b : Tx} : opI (rEqD' neg) (optD a) (.str b) M (b := ⟨K⟩) = K (.bl (if neg then !decide (a = some b) else decide (a = some b))) M := r_eqO (b := some b)
theorem r_eqSN {neg : Bool} {M : MM} {K : Kd} {a : Tx} : opI (rEqD' neg) (.str a) .non M (b := ⟨K⟩) = K (.bl neg) M := by
  rw [show (D.str a) = optD (some a) from rfl, show D.non = optD none from rfl, r_eqO]
  cases neg <;> rfl
theorem r_eqNS {neg : Bool} {M : MM} {K : Kd} {a : Tx} : opI (rEqD' neg) .non (.str a) M (b := ⟨K⟩) = K (.bl neg) M := by
  rw [show (D.str a) = optD (some a) from rfl, show D.non = optD none from rfl, r_eqO]
  cases neg <;> rfl
def tab_USUAL_PORTS : List (Tx × Tx) := [([104, 116, 116, 112], [56, 48]), ([104, 116, 116, 112, 115], [52, 52, 51]), ([102, 116, 112], [50, 49])]
def shortN (p : Tx) : Tx := let q := p.dropWhile (· == 48); if q = [] then [48] else q
def portN (s p : Option Tx) : Option Tx := match p with
  | none => none
  | some p => if p = [] then none else if some (shortN p) = s.bind (lookT · tab_USUAL_PORTS) then none else some (shortN p)
def sp_p_normal_port : DSpec := fun ds M K _ => ∃ s p : Option Tx, ds = [optD s, optD p] ∧ M = [] ∧ (∀ t, p = some t → t.length ≤ 10000) ∧ K (optD (portN s p)) []
def rd_p_normal_port : DS :=
  (dSeq (dIfS (qOr (qTru (dOp (rIsN' false) (dVar 1) (dC .non))) (qTru (dOp (rEqD' false) (dVar 1) (dC (.str [])))))
    (dRet (dC .non))
    dNext)
    (dSeq (dSet 2 (dOr (dM mLstrip (dVar 1) (aCons (dC (.str [48])) aNil)) (dC (.str [48]))))
    (dRet (dIf (qTru (dOp (rEqD' false) (dVar 2) (dTabG tab_USUAL_PORTS (dVar 0)))) (dC .non) (dVar 2)))))
theorem sem_p_normal_port (ds : List D) (M : MM) (K0 : Kd) (R0 : Kx) (h : sp_p_normal_port ds M K0 R0) : rd_p_normal_port (endG M.length K0 R0) (startG 3 ds) M := by
  obtain ⟨s, p, rfl, rfl, hp, k⟩ := h
  unfold rd_p_normal_port
  cases p with
  | none =>
    simp! [optD_n]
    exact k
  | some p =>
    have hl := hp p rfl
    by_cases e : p = []
    · subst e
      simp! [optD_s]
      exact k
    · have k : K0 (optD (if some (shortN p) = s.bind (lookT · tab_USUAL_PORTS) then none else some (shortN p))) [] := by
        have k : K0 (optD (if p = [] then none else if some (shortN p) = s.bind (lookT · tab_USUAL_PORTS) then none else some (shortN p))) [] := k
        rwa [if_neg e] at k
      refine seq_g fun N hN => ?_
      simp! [optD_s, decide_eq_false e]
      rw [hN]
      refine seq_g fun N2 hN2 => ?_
      have hd : (p.dropWhile (· == 48)).length ≤ p.length := (List.dropWhile_sublist _).length_le
      suffices g : N2 [some (optD s), some (.str p), some (.str (shortN p))] [] by
        simp!
        refine ⟨by omega, ?_⟩
        simp!
        refine ⟨by omega, ?_⟩
        unfold shortN at g
        generalize p.dropWhile (· == 48) = q at g ⊢
        cases q with
        | nil =>
          simp!
          exact g
        | cons c r =>
          simp!
          exact g
      rw [hN2]
      generalize shortN p = w at k
      cases s with
      | none =>
        have k2 : K0 (.str w) [] := k
        simp! [optD_n, r_eqSN]
        exact k2
      | some s =>
        have k2 : K0 (optD (if some w = lookT s tab_USUAL_PORTS then none else some w)) [] := k
        simp! [optD_s, r_eqSO]
        refine ifI_i (fun z => ?_) fun z => ?_
        · rw [if_pos z] at k2
          simp!
          exact k2
        · rw [if_neg z] at k2
          simp!
          exact k2
/-! normal_path -/
abbrev anyS : Tx := [32, 33, 34, 35, 36, 37, 38, 39, 40, 41, 42, 43, 44, 45, 46, 47, 48, 49, 50, 51, 52, 53, 54, 55, 56, 57, 58, 59, 60, 61, 62, 63, 64, 65, 66, 67, 68, 69, 70, 71, 72, 73, 74, 75, 76, 77, 78, 79, 80, 81, 82, 83, 84, 85, 86, 87, 88, 89, 90, 91, 92, 93, 95, 96, 97, 98, 99, 100, 101, 102, 103, 104, 105, 106, 107, 108, 109, 110, 111, 112, 113, 114, 115, 116, 117, 118, 119, 120, 121, 122, 123, 124, 125, 126]
theorem RtA.mono {A B t : Tx} (h : RtA A t) (g : ∀ c ∈ A, c ∈ B) : RtA B t := by
  obtain ⟨us, hu, e⟩ := h
  exact ⟨us, fun u q => (hu u q).imp (fun ⟨c, e, hc⟩ => ⟨c, e, g c hc⟩) id, e⟩
theorem plS_one (o : Nat) : (plS o).length ≤ 1 := by
  by_cases h : o ∈ plainS
  · exact Nat.le_of_eq ((by decide +kernel : ∀ o ∈ plainS, (plS o).length = 1) o h)
  · have : plS o = [] := by
      unfold plS
      rw [List.filter_eq_nil_iff]
      intro c hc z
      have z : c = o := by simpa using z
      exact h (z ▸ hc)
    rw [this]
    exact Nat.zero_le _
theorem unitN_le {A : Tx} (sm : Bool) {u : Tx} (h : UnitOk A u) : (unitN sm u).length ≤ u.length := by
  rcases h with ⟨c, rfl, hc⟩ | ⟨a, b, rfl, ha, hb⟩
  · rw [unitN_one]
    cases sm <;> simp
  · rw [unitN_esc]
    have h1 := plS_one (Hx.hexNum [a, b])
    have h2 : ∀ s : Tx, s.length ≤ 1 → (if s = [] then [uppC 94, uppC a, uppC b] else s).length ≤ 3 := fun s hs => by
      split
      · simp
      · exact Nat.le_trans hs (by decide)
    exact h2 _ (by cases sm <;> simpa using h1)
theorem normT_le {A t : Tx} (h94 : 94 ∉ A) (sm : Bool) (h : RtA A t) : (normT sm t).length ≤ t.length := by
  obtain ⟨us, hu, rfl⟩ := h
  rw [normT_units h94 sm us hu]
  induction us with
  | nil => exact Nat.zero_le _
  | cons u us ih =>
    have h1 := unitN_le sm (hu u List.mem_cons_self)
    have h2 := ih fun x hx => hu x (List.mem_cons_of_mem _ hx)
    simp only [List.map_cons, List.flatten_cons, List.length_append]
    omega
def pathN (a : Ur) : Tx := if a.h.isSome = true ∧ cleanedP (normT false a.r) a.h.isSome = [] then [47] else cleanedP (normT false a.r) a.h.isSome
/-- texts that have a normal form -/
structure NormOk (a : Ur) : Prop where
  s : ∀ t, a.s = some t → t.length ≤ 1000
  u : ∀ t, a.u = some t → t.length ≤ 1000 ∧ RtA anyS t
  h : ∀ t, a.h = some t → t.length ≤ 1000 ∧ RtA anyS t
  p : ∀ t, a.p = some t → t.length ≤ 1000
  r : a.r.length ≤ 1000 ∧ RtA anyS a.r
  q : ∀ t, a.q = some t → t.length ≤ 1000 ∧ RtA anyS t
  f : ∀ t, a.f = some t → t.length ≤ 1000 ∧ RtA anyS t
theorem any94 : 94 ∉ anyS := by decide
def sp_p_normal_path : DSpec := fun ds M K _ => ∃ a : Ur, ds = [obU a] ∧ M = [] ∧ NormOk a ∧ K (.str (pathN a)) []
def rd_p_normal_path : DS :=
  (dSeq (dSet 1 (dFn (cPure sp_p_cleaned_path) [] (aCons (dFn (cPure sp_p_normal_text) dv_p_normal_text_D1 (aCons (dProp "Url" sp_Url_path (dVar 0)) aNil)) (aCons (dProp "Url" sp_Url_has_authority (dVar 0)) aNil))))
    (dRet (dIf (qAnd (qTru (dProp "Url" sp_Url_has_authority (dVar 0))) (qTru (dOp (rEqD' false) (dVar 1) (dC (.str []))))) (dC (.str [47])) (dVar 1))))
theorem sem_p_normal_path (ds : List D) (M : MM) (K0 : Kd) (R0 : Kx) (h : sp_p_normal_path ds M K0 R0) : rd_p_normal_path (endG M.length K0 R0) (startG 2 ds) M := by
  obtain ⟨a, rfl, rfl, ok, k⟩ := h
  unfold rd_p_normal_path
  have hl := normT_le any94 false ok.r.2
  have hl2 := ok.r.1
  refine seq_g fun N hN => ?_
  simp!
  refine ⟨⟨_, _, rfl⟩, (by dsimp!), a, rfl, rfl, rfl, ?_⟩
  simp! [dv_p_normal_text_D1]
  refine ⟨(by dsimp!), a.r, anyS, false, rfl, rfl, by omega, any94, ok.r.2, rfl, ?_⟩
  simp!
  refine ⟨⟨_, _, rfl⟩, (by dsimp!), a, rfl, rfl, rfl, ?_⟩
  simp!
  refine ⟨(by dsimp!), normT false a.r, a.h.isSome, rfl, rfl, by omega, rfl, ?_⟩
  simp!
  rw [hN]
  simp!
  refine ⟨⟨_, _, rfl⟩, (by dsimp!), a, rfl, rfl, rfl, ?_⟩
  unfold pathN at k
  generalize cleanedP (normT false a.r) a.h.isSome = w at k
  refine ifI_i (fun y => ?_) fun y => ?_
  · simp!
    refine ifI_i (fun z => ?_) fun z => ?_
    · rw [if_pos ⟨y, z⟩] at k
      simp!
      exact k
    · rw [if_neg (fun x => z x.2)] at k
      simp!
      exact k
  · rw [if_neg (fun x => y x.1)] at k
    simp!
    exact k
/-! normal -/
def normU (a : Ur) : Ur := ⟨a.s.map (·.map lowC), if a.u.map (normT false) = some [] then none else a.u.map (normT false), a.h.map (normT true), portN (a.s.map (·.map lowC)) a.p, pathN a, a.q.map (normT false), a.f.map (normT false)⟩
def sp_p_normal : DSpec := fun ds M K _ => ∃ a : Ur, ds = [obU a] ∧ M = [] ∧ NormOk a ∧ K (obU (normU a)) []
def rd_p_normal : DS :=
  (dSeq (dSet 1 (dLc (iTp (dTup (aCons (dProp "Url" sp_Url_user (dVar 0)) (aCons (dProp "Url" sp_Url_query (dVar 0)) (aCons (dProp "Url" sp_Url_fragment (dVar 0)) aNil))))) (Tgt.nm 8) qYes (dIf (qTru (dOp (rIsN' false) (dVar 8) (dC .non))) (dC .non) (dFn (cPure sp_p_normal_text) dv_p_normal_text_D1 (aCons (dVar 8) aNil))) [8]))
    (dSeq (dUnpL [2, 3, 4] (dVar 1))
    (dSeq (dSet 5 (dIf (qTru (dOp (rIsN' false) (dProp "Url" sp_Url_scheme (dVar 0)) (dC .non))) (dC .non) (dM0 mLower (dProp "Url" sp_Url_scheme (dVar 0)))))
    (dSeq (dSet 6 (dIf (qTru (dOp (rIsN' false) (dProp "Url" sp_Url_host (dVar 0)) (dC .non))) (dC .non) (dFnK (cPure sp_p_normal_text) gD_p_normal_text_Kis_small 1 1 (aCons (dProp "Url" sp_Url_host (dVar 0)) aNil) (aCons (dC (.bl true)) aNil))))
    (dSeq (dSet 7 (dFn (cPure sp_p_normal_port) [] (aCons (dVar 5) (aCons (dProp "Url" sp_Url_port (dVar 0)) aNil))))
    (dRet (dMk "Url" sp_Url___init__ [] (aCons (dTup (aCons (dVar 5) (aCons (dIf (qTru (dOp (rEqD' true) (dVar 2) (dC (.str [])))) (dVar 2) (dC .non)) (aCons (dVar 6) (aCons (dVar 7) (aCons (dFn (cPure sp_p_normal_path) [] (aCons (dVar 0) aNil)) (aCons (dVar 3) (aCons (dVar 4) aNil)))))))) aNil))))))))
theorem sem_p_normal (ds : List D) (M : MM) (K0 : Kd) (R0 : Kx) (h : sp_p_normal ds M K0 R0) : rd_p_normal (endG M.length K0 R0) (startG 9 ds) M := by
  obtain ⟨⟨s, u, h, p, r, q, f⟩, rfl, rfl, ok, k⟩ := h
  have okp := ok.p
  have oks := ok.s
  have okh := ok.h
  dsimp only at okp oks okh
  unfold rd_p_normal
  refine seq_g fun N hN => ?_
  simp!
  refine ⟨⟨_, _, rfl⟩, (by dsimp!), _, rfl, rfl, rfl, ?_⟩
  simp!
  refine ⟨⟨_, _, rfl⟩, (by dsimp!), _, rfl, rfl, rfl, ?_⟩
  simp!
  refine ⟨⟨_, _, rfl⟩, (by dsimp!), _, rfl, rfl, rfl, ?_⟩
  simp!
  have hx : ∀ x ∈ [u, q, f], ∀ t, x = some t → t.length ≤ 1000 ∧ RtA anyS t := by
    simp only [List.forall_mem_cons]
    exact ⟨ok.u, ok.q, ok.f, fun _ h => nomatch h⟩
  refine comp_map (enc := optD) (g := fun o => optD (o.map (normT false))) [u, q, f] (by first | trivial | rfl) (Nat.le_of_ble_eq_true rfl) (fun x hxm Y hY => ?_) ?_
  · cases x with
    | none =>
      simp! [optD_n]
      exact hY
    | some t =>
      obtain ⟨h1, h2⟩ := hx _ hxm t rfl
      simp! [optD_s, dv_p_normal_text_D1]
      refine ⟨(by dsimp!), t, anyS, false, rfl, rfl, by omega, any94, h2, rfl, ?_⟩
      simp!
      exact hY
  · simp!
    rw [hN]
    clear hN
    refine seq_g fun N hN => ?_
    simp!
    rw [hN]
    clear hN
    refine seq_g fun N hN => ?_
    suffices g : ∀ x, x = s.map (·.map lowC) → N [some (obU ⟨s, u, h, p, r, q, f⟩), some (.ls [optD (u.map (normT false)), optD (q.map (normT false)), optD (f.map (normT false))]), some (optD (u.map (normT false))), some (optD (q.map (normT false))), some (optD (f.map (normT false))), some (optD x), none, none, none] [] by
      have g := g _ rfl
      simp!
      refine ⟨⟨_, _, rfl⟩, (by dsimp!), _, rfl, rfl, rfl, ?_⟩
      cases s with
      | none =>
        simp! [optD_n]
        exact g
      | some s =>
        have hs := oks s rfl
        simp! [optD_s]
        refine ⟨⟨_, _, rfl⟩, (by dsimp!), _, rfl, rfl, rfl, ?_⟩
        simp! [optD_s]
        refine ⟨by omega, ?_⟩
        simp!
        exact g
    intro S hS
    rw [hN]
    clear hN
    refine seq_g fun N hN => ?_
    suffices g : N [some (obU ⟨s, u, h, p, r, q, f⟩), some (.ls [optD (u.map (normT false)), optD (q.map (normT false)), optD (f.map (normT false))]), some (optD (u.map (normT false))), some (optD (q.map (normT false))), some (optD (f.map (normT false))), some (optD S), some (optD (h.map (normT true))), none, none] [] by
      simp!
      refine ⟨⟨_, _, rfl⟩, (by dsimp!), _, rfl, rfl, rfl, ?_⟩
      cases h with
      | none =>
        simp! [optD_n]
        exact g
      | some h =>
        obtain ⟨h1, h2⟩ := okh h rfl
        simp! [optD_s]
        refine ⟨⟨_, _, rfl⟩, (by dsimp!), _, rfl, rfl, rfl, ?_⟩
        simp! [optD_s, gD_p_normal_text_Kis_small]
        refine ⟨(by dsimp!), h, anyS, true, rfl, rfl, by omega, any94, h2, rfl, ?_⟩
        simp!
        exact g
    rw [hN]
    clear hN
    refine seq_g fun N hN => ?_
    simp!
    refine ⟨⟨_, _, rfl⟩, (by dsimp!), _, rfl, rfl, rfl, ?_⟩
    simp!
    refine ⟨(by dsimp!), S, p, rfl, rfl, fun t e => by have := okp t e; omega, rfl, ?_⟩
    simp!
    rw [hN]
    simp! [r_eqOS]
    suffices g : ∀ w, w = (if u.map (normT false) = some [] then none else u.map (normT false)) → K0 (obU ⟨S, w, h.map (normT true), portN S p, pathN ⟨s, u, h, p, r, q, f⟩, q.map (normT false), f.map (normT false)⟩) [] by
      generalize u.map (normT false) = U at g ⊢
      refine ifI_i (fun z => ?_) fun z => ?_
      · have g := g _ (if_neg z).symm
        simp!
        refine ⟨(by dsimp!), _, rfl, rfl, ok, rfl, ?_⟩
        simp!
        refine mkU (a := ⟨S, U, h.map (normT true), portN S p, pathN ⟨s, u, h, p, r, q, f⟩, q.map (normT false), f.map (normT false)⟩) ?_
        simp! [gr_obU_iff]
        exact g
      · have g := g _ (if_pos (Classical.not_not.mp z)).symm
        simp!
        refine ⟨(by dsimp!), _, rfl, rfl, ok, rfl, ?_⟩
        simp!
        refine mkU (a := ⟨S, none, h.map (normT true), portN S p, pathN ⟨s, u, h, p, r, q, f⟩, q.map (normT false), f.map (normT false)⟩) ?_
        simp! [gr_obU_iff]
        exact g
    rintro w rfl
    rw [hS]
    exact k
end L3

namespace L3
open PySem PySem.Spec PyProof.Rows L2 Evl
open Classical
local macro_rules | `(tactic| simp!) => `(tactic| try simp only [↓e_while, ↓e_var, ↓e_c, ↓e_op, ↓e_nil, ↓e_cons, ↓e_tup, ↓e_lst, ↓e_lstC, ↓e_tru, ↓e_qnot, ↓e_qand, ↓e_qor, ↓e_qyes, ↓e_if, ↓e_not, ↓e_and, ↓e_or, ↓e_neg, ↓e_chain, ↓e_call, ↓e_no, ↓e_part, ↓e_sl, ↓e_slC, ↓e_fn, ↓e_fn0, ↓e_fnK, ↓e_m0, ↓e_m, ↓e_frz, ↓e_fz, ↓e_app, ↓e_lc, ↓e_esc, ↓e_next, ↓e_seq, ↓e_ret, ↓e_retN, ↓e_drop, ↓e_set, ↓e_ifS, ↓e_brk, ↓e_cnt, ↓e_par, ↓e_aug, ↓e_setIx, ↓e_for, ↓e_unp, ↓e_nm, ↓e_tgt, ↓e_iLst, ↓e_iTp, ↓e_iStr, ↓e_iR1, ↓isR1_s, ↓e_iR2, ↓isR2_s, ↓e_iEn, ↓isEn_s, ↓e_iEnS, ↓isEnS_s, ↓r_addI, ↓r_addS, ↓r_addT, ↓r_addL, ↓r_iaddI, ↓r_iaddS, ↓r_sub, ↓r_mulI, ↓r_mulL, ↓r_mod, ↓r_fdiv, ↓r_pow, ↓r_ordI, ↓r_ordS, ↓r_is, ↓r_inS, ↓r_ixS, ↓r_ixL, ↓r_ixR, ↓r_ixT, ↓r_ixC, ↓r_slS, ↓r_slT, ↓r_slL, ↓r_slR, ↓r_lenS, ↓r_lenL, ↓r_lenT, ↓r_lenR, ↓r_abs, ↓r_max, ↓r_min, ↓r_intI, ↓r_intB, ↓r_ord, ↓r_listL, ↓r_listT, ↓r_tupL, ↓r_tupT, ↓r_split, ↓r_part, ↓r_join, ↓r_joinC, ↓r_starts, ↓r_ends, ↓r_lower, ↓r_upper, ↓r_rfind, ↓r_index, ↓r_all, ↓r_any, ↓r_sum, ↓r_hex, ↓r_isi, ↓r_eqS, ↓r_neS, ↓r_eqI, ↓r_neI, ↓r_eqB, ↓r_neB, ↓r_eqL, ↓r_neL, ↓r_eqL0, ↓r_neL0, ↓t_s, ↓r_eq00, ↓r_ne00, ↓gets_s, ↓gets_n, ↓onS_s, ↓onI_s, ↓onC_s, ↓onB_s, ↓onL_s, ↓thenP_t, ↓ifI_t, ↓ifI_f, ifI_t, ifI_f, gets_s, gets_n, onS_s, onI_s, onC_s, onB_s, onL_s, thenP_t, gets_if, endG_rt, endG_rz, endG_nx, endN_rt, has_ls1, has_ls2, startG, wipeG, setAll, cut_from1, cut_init, atI_0, atI_1, atI_2, atI_last, List.map_cons, List.map_nil, List.cons_append, List.nil_append, List.append_nil, List.replicate, List.getElem?_cons_zero, List.getElem?_cons_succ, List.getElem?_nil, List.set_cons_zero, List.set_cons_succ, List.length_cons, List.length_nil, List.length_map, List.length_append, Nat.zero_add, Nat.sub_zero, Nat.reduceSub, Nat.reduceAdd, Nat.reduceLeDiff, List.isEmpty_cons, List.isEmpty_nil, true_and, and_true, if_true, if_false, reduceIte, Bool.not_true, Bool.not_false, Bool.not_not, Bool.false_eq_true, reduceCtorEq, List.forall_mem_cons, List.forall_mem_nil, implies_true, List.mem_singleton, decide_eq_true_eq, Bool.not_eq_true', decide_eq_false_iff_not, okM0_iff, okM1c, List.take_zero, List.take_succ_cons, gr_str_iff, gr_int_iff, gr_bl_iff, gr_non_iff, gr_lss_iff, gr_ls0_iff, lsOf_ls, lsOf_rl, lsOf_c, sqOf_ls, sqOf_rl, sqOf_tp, sqOf_c, lsOwn_ls, lsOwn_c, tpOf_tp, truD_ls, truD_rl, truD_tp, truD_bl, truD_int, truD_non, isNon, tyD, get_snoc, set_snoc, not_true_eq_false, not_false_eq_true, Option.some.injEq, Int.reduceLT, Int.reduceLE, Int.reduceNeg, Int.reducePow, Int.reduceToNat, and_self, atI_nat, inS_one, ↓e_tab, ↓r_isBl, ↓r_isiO, ↓e_prop, ↓e_mk, ↓e_mkL, ↓e_meth, ↓e_cval, ↓e_cm, ↓e_setF, ↓e_zp, ↓e_enSK, ↓e_par3, ↓r_find, ↓e_asg3, ↓e_dispC, ↓e_dtIx, ↓onDt_s, ↓e_get2, ↓e_tabG, ↓tabGI_s, ↓tabGI_n, ↓r_lstrip, ↓e_unpL])
local macro_rules | `(tactic| simp! [$xs,*]) => `(tactic| try simp only [↓e_while, ↓e_var, ↓e_c, ↓e_op, ↓e_nil, ↓e_cons, ↓e_tup, ↓e_lst, ↓e_lstC, ↓e_tru, ↓e_qnot, ↓e_qand, ↓e_qor, ↓e_qyes, ↓e_if, ↓e_not, ↓e_and, ↓e_or, ↓e_neg, ↓e_chain, ↓e_call, ↓e_no, ↓e_part, ↓e_sl, ↓e_slC, ↓e_fn, ↓e_fn0, ↓e_fnK, ↓e_m0, ↓e_m, ↓e_frz, ↓e_fz, ↓e_app, ↓e_lc, ↓e_esc, ↓e_next, ↓e_seq, ↓e_ret, ↓e_retN, ↓e_drop, ↓e_set, ↓e_ifS, ↓e_brk, ↓e_cnt, ↓e_par, ↓e_aug, ↓e_setIx, ↓e_for, ↓e_unp, ↓e_nm, ↓e_tgt, ↓e_iLst, ↓e_iTp, ↓e_iStr, ↓e_iR1, ↓isR1_s, ↓e_iR2, ↓isR2_s, ↓e_iEn, ↓isEn_s, ↓e_iEnS, ↓isEnS_s, ↓r_addI, ↓r_addS, ↓r_addT, ↓r_addL, ↓r_iaddI, ↓r_iaddS, ↓r_sub, ↓r_mulI, ↓r_mulL, ↓r_mod, ↓r_fdiv, ↓r_pow, ↓r_ordI, ↓r_ordS, ↓r_is, ↓r_inS, ↓r_ixS, ↓r_ixL, ↓r_ixR, ↓r_ixT, ↓r_ixC, ↓r_slS, ↓r_slT, ↓r_slL, ↓r_slR, ↓r_lenS, ↓r_lenL, ↓r_lenT, ↓r_lenR, ↓r_abs, ↓r_max, ↓r_min, ↓r_intI, ↓r_intB, ↓r_ord, ↓r_listL, ↓r_listT, ↓r_tupL, ↓r_tupT, ↓r_split, ↓r_part, ↓r_join, ↓r_joinC, ↓r_starts, ↓r_ends, ↓r_lower, ↓r_upper, ↓r_rfind, ↓r_index, ↓r_all, ↓r_any, ↓r_sum, ↓r_hex, ↓r_isi, ↓r_eqS, ↓r_neS, ↓r_eqI, ↓r_neI, ↓r_eqB, ↓r_neB, ↓r_eqL, ↓r_neL, ↓r_eqL0, ↓r_neL0, ↓t_s, ↓r_eq00, ↓r_ne00, ↓gets_s, ↓gets_n, ↓onS_s, ↓onI_s, ↓onC_s, ↓onB_s, ↓onL_s, ↓thenP_t, ↓ifI_t, ↓ifI_f, ifI_t, ifI_f, gets_s, gets_n, onS_s, onI_s, onC_s, onB_s, onL_s, thenP_t, gets_if, endG_rt, endG_rz, endG_nx, endN_rt, has_ls1, has_ls2, startG, wipeG, setAll, cut_from1, cut_init, atI_0, atI_1, atI_2, atI_last, List.map_cons, List.map_nil, List.cons_append, List.nil_append, List.append_nil, List.replicate, List.getElem?_cons_zero, List.getElem?_cons_succ, List.getElem?_nil, List.set_cons_zero, List.set_cons_succ, List.length_cons, List.length_nil, List.length_map, List.length_append, Nat.zero_add, Nat.sub_zero, Nat.reduceSub, Nat.reduceAdd, Nat.reduceLeDiff, List.isEmpty_cons, List.isEmpty_nil, true_and, and_true, if_true, if_false, reduceIte, Bool.not_true, Bool.not_false, Bool.not_not, Bool.false_eq_true, reduceCtorEq, List.forall_mem_cons, List.forall_mem_nil, implies_true, List.mem_singleton, decide_eq_true_eq, Bool.not_eq_true', decide_eq_false_iff_not, okM0_iff, okM1c, List.take_zero, List.take_succ_cons, gr_str_iff, gr_int_iff, gr_bl_iff, gr_non_iff, gr_lss_iff, gr_ls0_iff, lsOf_ls, lsOf_rl, lsOf_c, sqOf_ls, sqOf_rl, sqOf_tp, sqOf_c, lsOwn_ls, lsOwn_c, tpOf_tp, truD_ls, truD_rl, truD_tp, truD_bl, truD_int, truD_non, isNon, tyD, get_snoc, set_snoc, not_true_eq_false, not_false_eq_true, Option.some.injEq, Int.reduceLT, Int.reduceLE, Int.reduceNeg, Int.reducePow, Int.reduceToNat, and_self, atI_nat, inS_one, ↓e_tab, ↓r_isBl, ↓r_isiO, ↓e_prop, ↓e_mk, ↓e_mkL, ↓e_meth, ↓e_cval, ↓e_cm, ↓e_setF, ↓e_zp, ↓e_enSK, ↓e_par3, ↓r_find, ↓e_asg3, ↓e_dispC, ↓e_dtIx, ↓onDt_s, ↓e_get2, ↓e_tabG, ↓tabGI_s, ↓tabGI_n, ↓r_lstrip, ↓e_unpL, $xs,*])
local macro_rules | `(tactic| dsimp!) => `(tactic| simp only [List.forall_mem_cons, List.forall_mem_nil, List.mem_singleton, forall_eq, implies_true, and_true, true_and, gr_str_iff, gr_int_iff, gr_bl_iff, gr_non_iff, gr_lss_iff, gr_ls0_iff, gr_opt_iff, gr_ints_iff, gr_rl_iff, gr_tpU_iff, gr_obU_iff, gr_cl_iff, gr_tp0_iff, gr_tpc_iff, gr_lsc_iff])
/-! ### escapes: the pieces of a text -/
def escH : Tx → Bool
  | 94 :: a :: b :: _ => isHexB a && isHexB b
  | _ => false
theorem escAt_H (t : Tx) (i : Nat) : escAt t i = escH (t.drop i) := by
  unfold escAt
  rw [← List.drop_drop]
  generalize t.drop i = s
  match s with
  | [] => rfl
  | [c] =>
    show ([c] == [94] && false && _) = escH [c]
    rw [Bool.and_false, Bool.false_and]
    simp [escH]
  | [c, a] =>
    show ([c] == [94] && false && _) = escH [c, a]
    rw [Bool.and_false, Bool.false_and]
    simp [escH]
  | c :: a :: b :: r =>
    show ([c] == [94] && true && (isHexB a && (isHexB b && true))) = _
    rw [Bool.and_true, Bool.and_true]
    by_cases h : c = 94
    · subst h
      rfl
    · rw [beq_eq_false_iff_ne.mpr (fun z => h (List.cons.inj z).1), Bool.false_and]
      unfold escH
      split
      · rename_i q
        cases q
        exact absurd rfl h
      · rfl
def pcF : Tx → List Tx
  | 94 :: a :: b :: r => if (isHexB a && isHexB b) = true then [94, a, b] :: pcF r else [94] :: pcF (a :: b :: r)
  | c :: r => [c] :: pcF r
  | [] => []
theorem pc_cases (c : Nat) (r : Tx) : (∃ a b r', c :: r = 94 :: a :: b :: r' ∧ isHexB a = true ∧ isHexB b = true ∧ escH (c :: r) = true ∧ pcF (c :: r) = [94, a, b] :: pcF r') ∨ (escH (c :: r) = false ∧ pcF (c :: r) = [c] :: pcF r) := by
  have e : pcF (c :: r) = pcF (c :: r) := rfl
  conv at e => rhs; unfold pcF
  split at e
  · rename_i a b r' q
    cases q
    by_cases h : (isHexB a && isHexB b) = true
    · rw [if_pos h] at e
      have h2 := h
      rw [Bool.and_eq_true] at h2
      exact .inl ⟨a, b, r', rfl, h2.1, h2.2, h, e⟩
    · rw [if_neg h] at e
      exact .inr ⟨(Bool.eq_false_iff.mpr h : (isHexB a && isHexB b) = false), e⟩
  · rename_i c' r' hno q
    cases q
    refine .inr ⟨?_, e⟩
    unfold escH
    split
    · rename_i a b r2 q
      cases q
      exact absurd rfl (hno a b r2 rfl)
    · rfl
  · rename_i q
    cases q
theorem pcF_flat : ∀ (n : Nat) (t : Tx), t.length ≤ n → (pcF t).flatten = t
  | _, [], _ => rfl
  | 0, c :: r, h => by simp at h
  | n + 1, c :: r, h => by
    rw [List.length_cons] at h
    rcases pc_cases c r with ⟨a, b, r', e, _, _, _, q⟩ | ⟨_, q⟩
    · rw [q, List.flatten_cons, pcF_flat n r' (by have := congrArg List.length e; simp at this; omega), e]
      rfl
    · rw [q, List.flatten_cons, pcF_flat n r (by omega)]
      rfl
theorem pcF_flat' (t : Tx) : (pcF t).flatten = t := pcF_flat t.length t (Nat.le_refl _)
/-- what a piece is -/
def Pc (t p : Tx) : Prop := (∃ c, p = [c] ∧ c ∈ t) ∨ ∃ a b, p = [94, a, b] ∧ isHexB a = true ∧ isHexB b = true
theorem pcF_pc : ∀ (n : Nat) (t : Tx), t.length ≤ n → ∀ p ∈ pcF t, Pc t p
  | _, [], _, p, hp => nomatch hp
  | 0, c :: r, h, _, _ => by simp at h
  | n + 1, c :: r, h, p, hp => by
    rw [List.length_cons] at h
    rcases pc_cases c r with ⟨a, b, r', e, ha, hb, _, q⟩ | ⟨_, q⟩
    · rw [q] at hp
      rcases List.mem_cons.mp hp with rfl | hp
      · exact .inr ⟨a, b, rfl, ha, hb⟩
      · refine (pcF_pc n r' (by have := congrArg List.length e; simp at this; omega) p hp).imp (fun ⟨c', e1, hc⟩ => ⟨c', e1, ?_⟩) id
        rw [e]
        simp [hc]
    · rw [q] at hp
      rcases List.mem_cons.mp hp with rfl | hp
      · exact .inl ⟨c, rfl, List.mem_cons_self⟩
      · exact (pcF_pc n r (by omega) p hp).imp (fun ⟨c', e1, hc⟩ => ⟨c', e1, List.mem_cons_of_mem _ hc⟩) id
theorem pcF_pc' {t p : Tx} (h : p ∈ pcF t) : Pc t p := pcF_pc t.length t (Nat.le_refl _) p h
theorem pcF_len (t : Tx) : (pcF t).length ≤ t.length := by
  have key : ∀ l : List Tx, (∀ p ∈ l, 1 ≤ p.length) → l.length ≤ l.flatten.length := fun l => by
    induction l with
    | nil => intro _; exact Nat.zero_le _
    | cons p r ih =>
      intro h
      have h1 := h p List.mem_cons_self
      have h2 := ih fun q hq => h q (List.mem_cons_of_mem _ hq)
      simp only [List.flatten_cons, List.length_append, List.length_cons]
      omega
  have := key (pcF t) fun p hp => by
    rcases pcF_pc' hp with ⟨c, rfl, _⟩ | ⟨a, b, rfl, _⟩ <;> simp
  rwa [pcF_flat'] at this
/-! escape_of -/
def sp_p_escape_of : DSpec := fun ds M K _ => ∃ o : Nat, ds = [.int o] ∧ M = [] ∧ o < 256 ∧ K (.str (94 :: hexT o)) []
def rd_p_escape_of : DS :=
  (dRet (dEsc (dC (.str [94])) (dVar 0)))
theorem sem_p_escape_of (ds : List D) (M : MM) (K0 : Kd) (R0 : Kx) (h : sp_p_escape_of ds M K0 R0) : rd_p_escape_of (endG M.length K0 R0) (startG 1 ds) M := by
  obtain ⟨o, rfl, rfl, ho, k⟩ := h
  unfold rd_p_escape_of
  simp!
  exact ⟨o, rfl, ho, k⟩
/-! mended -/
def mendP (A : Tx) : Tx → Tx
  | [c] => if c ∈ A then [c] else 94 :: hexT c
  | p => p
theorem mendP_one (A : Tx) (c : Nat) : mendP A [c] = if c ∈ A then [c] else 94 :: hexT c := rfl
def mendT (A t : Tx) : Tx := ((pcF t).map (mendP A)).flatten
theorem hexT_len (o : Nat) : (hexT o).length = 2 := rfl
theorem mendP_len (A p : Tx) (h : p.length ≤ 3) : (mendP A p).length ≤ 3 := by
  unfold mendP
  split
  · split
    · simp
    · rw [List.length_cons, hexT_len]
      decide
  · exact h
theorem mend_sum (A : Tx) : ∀ ps : List Tx, (∀ p ∈ ps, p.length ≤ 3) → ((ps.map (mendP A)).map List.length).sum ≤ 3 * ps.length
  | [], _ => Nat.zero_le _
  | p :: ps, h => by
    have h1 := mendP_len A p (h p List.mem_cons_self)
    have h2 := mend_sum A ps fun x hx => h x (List.mem_cons_of_mem _ hx)
    simp only [List.map_cons, List.sum_cons, List.length_cons]
    omega
theorem pc_le {t p : Tx} (h : p ∈ pcF t) : p.length ≤ 3 := by
  rcases pcF_pc' h with ⟨c, rfl, _⟩ | ⟨a, b, rfl, _⟩ <;> simp
def sp_p_mended : DSpec := fun ds M K _ => ∃ t n A : Tx, ds = [.str t, .str n] ∧ M = [] ∧ t.length ≤ 10000 ∧ (∀ c ∈ t, c < 256) ∧ lookT n tab_ALLOWED = some A ∧ K (.str (mendT A t)) []
def lb0_p_mended : DS :=
  (dSeq (dSet 4 (dIf (qTru (dFn (cPure sp_p_is_escape_at) [] (aCons (dVar 0) (aCons (dVar 3) aNil)))) (dC (.int 3)) (dC (.int 1))))
    (dSeq (dSet 5 (dSl (dVar 0) (dPart (dVar 3)) (dPart (dOp rAddD (dVar 3) (dVar 4)))))
    (dSeq (dDrop (dApp (dVar 2) (dIf (qOr (qTru (dOp rGtD (dVar 4) (dC (.int 1)))) (qTru (dOp (rInD false) (dVar 5) (dTab tab_ALLOWED (dVar 1))))) (dVar 5) (dFn (cPure sp_p_escape_of) [] (aCons (dCall rOrd (aCons (dVar 5) aNil)) aNil)))))
    (dAug 3 rIAddD (dVar 4)))))
def rd_p_mended : DS :=
  (dSeq (dPar 2 3 (aCons (dLstC aNil) (aCons (dC (.int 0)) aNil)))
    (dSeq (dWhile (qTru (dOp rLtD (dVar 3) (dCall rLen (aCons (dVar 0) aNil)))) lb0_p_mended)
    (dRet (dM mJoin (dC (.str [])) (aCons (dVar 2) aNil)))))
theorem sem_p_mended (ds : List D) (M : MM) (K0 : Kd) (R0 : Kx) (h : sp_p_mended ds M K0 R0) : rd_p_mended (endG M.length K0 R0) (startG 6 ds) M := by
  obtain ⟨t, n, A, rfl, rfl, ht, hc, hA, k⟩ := h
  unfold rd_p_mended
  refine seq_g fun N0 hN0 => ?_
  simp!
  rw [hN0]
  refine seq_g fun N1 hN1 => ?_
  simp!
  refine while_ind (P := fun m Γ M => ∃ ps rest o4 o5, M = [.ls ((ps.map (mendP A)).map .str)] ∧ pcF t = ps ++ pcF rest ∧ t = ps.flatten ++ rest ∧ m = rest.length ∧ Γ = [some (.str t), some (.str n), some (.cel 0), some (.int (ps.flatten.length : Nat)), o4, o5]) t.length ⟨[], t, none, none, rfl, rfl, rfl, rfl, rfl⟩ ?_
  rintro m Γ M N hN ⟨ps, rest, o4, o5, rfl, ep, et, rfl, rfl⟩
  have el := congrArg List.length et
  rw [List.length_append] at el
  have hpl : (pcF t).length ≤ t.length := pcF_len t
  have hps : ps.length ≤ (pcF t).length := by rw [ep]; simp
  simp!
  refine ⟨by omega, ?_⟩
  simp!
  cases rest with
  | nil =>
    have q : t.length = ps.flatten.length := by simpa using el
    rw [q, if_neg (by omega)]
    have ep : pcF t = ps := by rw [ep]; exact List.append_nil _
    rw [hN1]
    simp!
    have := mend_sum A ps fun p hp => pc_le (t := t) (by rw [ep]; exact hp)
    refine ⟨ps.map (mendP A), rfl, (by show ((ps.map (mendP A)).map List.length).sum + _ * 0 ≤ 16777216; omega), ?_⟩
    unfold mendT at k
    rw [ep] at k
    rw [jn_flat]
    simp!
    exact k
  | cons c r =>
    have d1 : t.drop ps.flatten.length = c :: r := by rw [et]; exact List.drop_left
    rw [List.length_cons] at el
    rw [if_pos (by omega)]
    unfold lb0_p_mended
    refine seq_g fun N2 hN2 => ?_
    simp!
    refine ⟨(by dsimp!), t, ps.flatten.length, rfl, rfl, by omega, ?_⟩
    rw [escAt_H, d1]
    rcases pc_cases c r with ⟨a, b, r', e, ha, hb, h1, q⟩ | ⟨h1, q⟩
    · rw [h1]
      simp!
      have e3 : cut t (some ((ps.flatten.length : Nat) : Int)) (some (((ps.flatten.length : Nat) : Int) + 3)) = [94, a, b] := by
        rw [cut_i3, d1, e]
        rfl
      rw [hN2]
      simp!
      refine ⟨by omega, ?_⟩
      rw [e3]
      simp!
      refine ⟨by omega, ?_⟩
      simp!
      have er : r'.length < (c :: r).length := by rw [e]; simp; omega
      refine hN r'.length _ _ er ⟨ps ++ [[94, a, b]], r', some (.int 3), some (.str [94, a, b]), ?_, ?_, ?_, rfl, ?_⟩
      · rw [List.map_append, List.map_append]
        rfl
      · rw [ep, q]
        simp
      · rw [et, e]
        simp
      · rw [List.flatten_append, List.length_append]
        rfl
    · rw [h1]
      simp!
      have e3 : cut t (some ((ps.flatten.length : Nat) : Int)) (some (((ps.flatten.length : Nat) : Int) + 1)) = [c] := by
        rw [cut_i1, d1]
        rfl
      have hcc : c < 256 := hc c (by rw [et]; simp)
      have fin : N [some (.str t), some (.str n), some (.cel 0), some (.int (((ps.flatten.length : Nat) : Int) + 1)), some (.int 1), some (.str [c])] [.ls ((ps.map (mendP A)).map .str ++ [.str (if c ∈ A then [c] else 94 :: hexT c)])] := by
        refine hN r.length _ _ (by simp) ⟨ps ++ [[c]], r, some (.int 1), some (.str [c]), ?_, ?_, ?_, rfl, ?_⟩
        · rw [List.map_append, List.map_append]
          rfl
        · rw [ep, q]
          simp
        · rw [et]
          simp
        · rw [List.flatten_append, List.length_append]
          rfl
      rw [hN2]
      simp!
      refine ⟨by omega, ?_⟩
      rw [e3]
      simp!
      refine gets_i hA ?_
      simp!
      refine ifI_i (fun z => ?_) fun z => ?_
      · rw [if_pos z] at fin
        simp!
        refine ⟨by omega, ?_⟩
        simp!
        exact fin
      · rw [if_neg z] at fin
        simp!
        refine ⟨(by dsimp!), c, rfl, rfl, hcc, rfl, ?_⟩
        simp!
        refine ⟨by omega, ?_⟩
        simp!
        exact fin
/-! octets -/
def octP : Tx → Nat
  | [c] => c
  | [_, a, b] => Hx.hexNum [a, b]
  | _ => 0
def octF (t : Tx) : List Nat := (pcF t).map octP
abbrev natsD (os : List Nat) : List D := os.map fun o => .int (o : Nat)
theorem gr_nats (os : List Nat) : ∀ d ∈ natsD os, Gr d := by
  intro d hd
  obtain ⟨o, _, rfl⟩ := List.mem_map.mp hd
  trivial
def sp_p_octets : DSpec := fun ds M K _ => ∃ t : Tx, ds = [.str t] ∧ M = [] ∧ t.length ≤ 100000 ∧ (∀ p ∈ pcF t, p ≠ [94]) ∧ K (.ls (natsD (octF t))) []
def lb0_p_octets : DS :=
  (dIfS (qTru (dOp (rEqD' true) (dOp rIxD (dVar 0) (dVar 2)) (dC (.str [94]))))
    (dSeq (dDrop (dApp (dVar 1) (dCall rOrd (aCons (dOp rIxD (dVar 0) (dVar 2)) aNil))))
    (dAug 2 rIAddD (dC (.int 1))))
    (dIfS (qTru (dFn (cPure sp_p_is_escape_at) [] (aCons (dVar 0) (aCons (dVar 2) aNil))))
    (dSeq (dDrop (dApp (dVar 1) (dFn (cPure sp_p_octet_at) [] (aCons (dVar 0) (aCons (dVar 2) aNil)))))
    (dAug 2 rIAddD (dC (.int 3))))
    dNever))
def rd_p_octets : DS :=
  (dSeq (dIfS (qNot (qTru (dCall rIsiD (aCons (dVar 0) (aCons (dC (.ty "str")) aNil)))))
    dNever
    dNext)
    (dSeq (dPar 1 2 (aCons (dLstC aNil) (aCons (dC (.int 0)) aNil)))
    (dSeq (dWhile (qTru (dOp rLtD (dVar 2) (dCall rLen (aCons (dVar 0) aNil)))) lb0_p_octets)
    (dRet (dFrz 1)))))
theorem sem_p_octets (ds : List D) (M : MM) (K0 : Kd) (R0 : Kx) (h : sp_p_octets ds M K0 R0) : rd_p_octets (endG M.length K0 R0) (startG 3 ds) M := by
  obtain ⟨t, rfl, rfl, ht, hno, k⟩ := h
  unfold rd_p_octets
  refine seq_g fun N hN => ?_
  simp!
  refine gets_i (a := true) rfl ?_
  simp!
  rw [hN]
  clear hN
  refine seq_g fun N0 hN0 => ?_
  simp!
  rw [hN0]
  refine seq_g fun N1 hN1 => ?_
  simp!
  refine while_ind (P := fun m Γ M => ∃ ps rest, M = [.ls (natsD (ps.map octP))] ∧ pcF t = ps ++ pcF rest ∧ t = ps.flatten ++ rest ∧ m = rest.length ∧ Γ = [some (.str t), some (.cel 0), some (.int (ps.flatten.length : Nat))]) t.length ⟨[], t, rfl, rfl, rfl, rfl, rfl⟩ ?_
  rintro m Γ M N hN ⟨ps, rest, rfl, ep, et, rfl, rfl⟩
  have el := congrArg List.length et
  rw [List.length_append] at el
  have hpl : (pcF t).length ≤ t.length := pcF_len t
  have hps : ps.length ≤ (pcF t).length := by rw [ep]; simp
  simp!
  refine ⟨by omega, ?_⟩
  simp!
  cases rest with
  | nil =>
    have q : t.length = ps.flatten.length := by simpa using el
    rw [q, if_neg (by omega)]
    have ep : pcF t = ps := by rw [ep]; exact List.append_nil _
    rw [hN1]
    simp!
    unfold octF at k
    rw [ep] at k
    exact ⟨gr_ls.mpr (gr_nats _), k⟩
  | cons c r =>
    have d1 : t.drop ps.flatten.length = c :: r := by rw [et]; exact List.drop_left
    rw [List.length_cons] at el
    rw [if_pos (by omega)]
    unfold lb0_p_octets
    have g0 : t[ps.flatten.length]? = some c := by
      have : (t.drop ps.flatten.length)[0]? = t[ps.flatten.length]? := by rw [List.getElem?_drop]; rfl
      rw [← this, d1]
      rfl
    have fin : ∀ (p r' : Tx) (x : Int), pcF (c :: r) = p :: pcF r' → c :: r = p ++ r' → r'.length < (c :: r).length → x = ((ps.flatten.length : Nat) : Int) + (p.length : Nat) → N [some (.str t), some (.cel 0), some (.int x)] [.ls (natsD (ps.map octP) ++ [.int (octP p : Nat)])] := fun p r' x h1 h2 h3 h4 => by
      refine hN r'.length _ _ h3 ⟨ps ++ [p], r', ?_, ?_, ?_, rfl, ?_⟩
      · unfold natsD
        rw [List.map_append, List.map_append]
        rfl
      · rw [ep, h1]
        simp
      · rw [et, h2]
        simp
      · rw [h4, List.flatten_append, List.length_append]
        simp
    simp!
    refine ⟨by omega, ?_⟩
    simp!
    refine gets_i g0 ?_
    simp!
    refine ifI_i (fun z => ?_) fun z => ?_
    · have z : c ≠ 94 := fun y => z (by rw [y])
      have q : escH (c :: r) = false ∧ pcF (c :: r) = [c] :: pcF r := by
        rcases pc_cases c r with ⟨a, b, r', e, _⟩ | q
        · exact absurd (List.cons.inj e).1 z
        · exact q
      simp!
      refine ⟨by omega, ?_⟩
      simp!
      refine gets_i g0 ?_
      simp!
      refine ⟨by omega, ?_⟩
      simp!
      exact fin [c] r _ q.2 rfl (by simp) rfl
    · simp!
      refine ⟨(by dsimp!), t, ps.flatten.length, rfl, rfl, ht, ?_⟩
      have z : c = 94 := by
        have := Classical.not_not.mp z
        exact (List.cons.inj this).1
      subst z
      rw [escAt_H, d1]
      rcases pc_cases 94 r with ⟨a, b, r', e, ha, hb, h1, q⟩ | ⟨h1, q⟩
      · rw [h1]
        simp!
        have hv : escVal t ps.flatten.length = Hx.hexNum [a, b] := by
          unfold escVal
          rw [← List.drop_drop, d1, e]
          rfl
        refine ⟨(by dsimp!), t, ps.flatten.length, rfl, rfl, ht, by rw [escAt_H, d1]; exact h1, rfl, ?_⟩
        rw [hv]
        simp!
        refine ⟨by omega, ?_⟩
        simp!
        exact fin [94, a, b] r' _ q e (by rw [e]; simp; omega) rfl
      · exact absurd rfl (hno [94] (by rw [ep, q]; simp))
end L3

namespace L3
open PySem PySem.Spec PyProof.Rows L2 Evl
open Classical
local macro_rules | `(tactic| dsimp! [$xs,*]) => `(tactic| simp only [dSeq, dNext, dRet, dRetN, dDrop, dSet, dIfS, dBrk, dCnt, dPar, dAug, dSetIx, dFor, dEsc, dChain, dNever, iEn, iEnS, iEnSK, iZp, dUnp, dVar, dC, dOp, dSl, dSlC, dPart, dNo, dTup, dLst, dLstC, dIf, dNot, dAnd, dOr, rNegD, dCall, dM, dM0, dApp, dFrz, dFz, dLc, dFn, dFn0, dFnK, aCons, aNil,
    qTru, qNot, qAnd, qOr, qYes, iLst, iTp, iStr', iR1, iR2, Tgt.d, setAll, wipeG, rAddD, rSubD, rMulD, rModD, rFdivD, rPowD, rOrdD, rIAddD, rIsN', rIxD, rSlD, rLen, rAbs, rMax2, rMin2, rInt1, rOrd, rListOf, rListOfC, rTupleOf, rIsiD, rAllD, rAnyD, rSumD, rHex, mLower, mUpper, mRfind, mIndex,
    mSplit, mPart, mJoin, mStarts, mEnds, startG, endG, endN, endW, eqS_iff, eqI_iff, eqB_iff, eqL_iff, lsOwn_ls, lsOf_ls, lsOf_rl, sqOf_ls, sqOf_rl, sqOf_tp, tpOf_tp, truD_ls, truD_rl, truD_tp, truD_bl, truD_int, truD_non, cPure, cNew, cBagA, sPure, isNon, flatD, tyD,
    cut_from1, cut_init, atI_0, atI_1, atI_2, atI_last, List.map_cons, List.map_nil, List.cons_append, List.nil_append, List.replicate, List.getElem?_cons_zero, List.getElem?_cons_succ, List.getElem?_nil, List.set_cons_zero, List.set_cons_succ, Option.some.injEq, exists_eq_left', exists_eq_left, Option.some_or, Option.none_or, Option.or_some, List.length_cons, List.length_nil, List.length_map, Nat.sub_zero, Nat.reduceSub, Nat.reduceAdd, Nat.reduceLeDiff, List.isEmpty_cons, List.isEmpty_nil, true_and, and_true, if_true, if_false, reduceIte, Bool.not_true, Bool.not_false, Bool.false_eq_true, reduceCtorEq, List.forall_mem_cons, List.forall_mem_nil, implies_true, List.mem_singleton, forall_eq, decide_eq_true_eq, Bool.not_eq_true', decide_eq_false_iff_not, okM0_iff, List.take_zero, gr_str_iff, gr_int_iff, gr_bl_iff, gr_non_iff, gr_lss_iff, gr_ls0_iff, sqOf_1, lsOf_1, lsOwn_1, ixN_30, ixN_31, ixN_32, setIx_iff, setIx_iff', D.cel.injEq, not_true_eq_false, not_false_eq_true, $xs,*])
/-! ### the bag: [great, mixed] -/
def BagA (l : List D) : Prop := ∃ g s : Int, l = [.int g, .int s] ∧ 0 ≤ g ∧ 0 ≤ s ∧ s ≤ 2147483587
theorem BagA.gr {l : List D} (h : BagA l) : GrM (.ls l) := by
  obtain ⟨g, s, rfl, _⟩ := h
  exact gr_ints [g, s]
theorem okA {l : List D} (h : BagA l) : OkM 1 [.ls l] := fun m' h' => by
  have e : m' = .ls l := by simpa using h'
  rw [e]
  exact h.gr
def sp_law_take : DSpec := fun ds M K _ => ∃ (l : List D) (m : Int), ds = [.cel 0, .int m] ∧ M = [.ls l] ∧ BagA l ∧ 0 < m ∧ m < 1000000 ∧ ∀ x l', 0 ≤ x → x < m → BagA l' → K (.int x) [.ls l']
def rd_law_take : DS :=
  (dSeq (dIfS (qTru (dOp rGtD (dOp rIxD (dVar 0) (dC (.int 0))) (dC (.int 0))))
    (dSeq (dSet 2 (dOp rModD (dOp rIxD (dVar 0) (dC (.int 0))) (dVar 1)))
    (dSeq (dSetIx (dVar 0) (dC (.int 0)) (dOp rFdivD (dOp rIxD (dVar 0) (dC (.int 0))) (dVar 1)))
    (dRet (dVar 2))))
    dNext)
    (dSeq (dSetIx (dVar 0) (dC (.int 1)) (dOp rModD (dOp rAddD (dOp rMulD (dOp rIxD (dVar 0) (dC (.int 1))) (dC (.int 48271))) (dC (.int 3571))) (dC (.int 2147483587))))
    (dRet (dOp rModD (dOp rFdivD (dOp rModD (dOp rMulD (dOp rFdivD (dOp rIxD (dVar 0) (dC (.int 1))) (dC (.int 11))) (dC (.int 69621))) (dC (.int 2147483497))) (dC (.int 64))) (dVar 1)))))
theorem ixN_20 : L2.ixN 2 0 = some 0 := rfl
theorem ixN_21 : L2.ixN 2 1 = some 1 := rfl
theorem sem_law_take (ds : List D) (M : MM) (K0 : Kd) (R0 : Kx) (h : sp_law_take ds M K0 R0) : rd_law_take (endG M.length K0 R0) (startG 3 ds) M := by
  obtain ⟨l, m, rfl, rfl, ⟨g, s, rfl, h1, h2, h3⟩, hm, hm2, k⟩ := h
  have fin : ∀ x l', 0 ≤ x → x < m → BagA l' → OkM 1 [.ls l'] ∧ K0 (.int x) (([.ls l'] : MM).take 1) := fun x l' a b d => ⟨okA d, k x l' a b d⟩
  refine seq_g fun N hN => ?_
  simp only [dSeq, dNext, dRet, dRetN, dDrop, dSet, dIfS, dBrk, dCnt, dPar, dAug, dSetIx, dFor, dEsc, dChain, dNever, iEn, iEnS, iEnSK, iZp, dUnp, dVar, dC, dOp, dSl, dSlC, dPart, dNo, dTup, dLst, dLstC, dIf, dNot, dAnd, dOr, rNegD, dCall, dM, dM0, dApp, dFrz, dFz, dLc, dFn, dFn0, dFnK, aCons, aNil,
    qTru, qNot, qAnd, qOr, qYes, iLst, iTp, iStr', iR1, iR2, Tgt.d, setAll, wipeG, rAddD, rSubD, rMulD, rModD, rFdivD, rPowD, rOrdD, rIAddD, rIsN', rIxD, rSlD, rLen, rAbs, rMax2, rMin2, rInt1, rOrd, rListOf, rListOfC, rTupleOf, rIsiD, rAllD, rAnyD, rSumD, rHex, mLower, mUpper, mRfind, mIndex,
    mSplit, mPart, mJoin, mStarts, mEnds, startG, endG, endN, endW, eqS_iff, eqI_iff, eqB_iff, eqL_iff, lsOwn_ls, lsOf_ls, lsOf_rl, sqOf_ls, sqOf_rl, sqOf_tp, tpOf_tp, truD_ls, truD_rl, truD_tp, truD_bl, truD_int, truD_non, cPure, cNew, cBagA, sPure, isNon, flatD, tyD,
    cut_from1, cut_init, atI_0, atI_1, atI_2, atI_last, List.map_cons, List.map_nil, List.cons_append, List.nil_append, List.replicate, List.getElem?_cons_zero, List.getElem?_cons_succ, List.getElem?_nil, List.set_cons_zero, List.set_cons_succ, Option.some.injEq, exists_eq_left', exists_eq_left, Option.some_or, Option.none_or, Option.or_some, List.length_cons, List.length_nil, List.length_map, Nat.sub_zero, Nat.reduceSub, Nat.reduceAdd, Nat.reduceLeDiff, List.isEmpty_cons, List.isEmpty_nil, true_and, and_true, if_true, if_false, reduceIte, Bool.not_true, Bool.not_false, Bool.false_eq_true, reduceCtorEq, List.forall_mem_cons, List.forall_mem_nil, implies_true, List.mem_singleton, forall_eq, decide_eq_true_eq, Bool.not_eq_true', decide_eq_false_iff_not, okM0_iff, List.take_zero, gr_str_iff, gr_int_iff, gr_bl_iff, gr_non_iff, gr_lss_iff, gr_ls0_iff, sqOf_1, lsOf_1, lsOwn_1, ixN_30, ixN_31, ixN_32, setIx_iff, setIx_iff', D.cel.injEq, not_true_eq_false, not_false_eq_true, ixN_20, ixN_21]
  by_cases c1 : 0 < g
  · rw [if_pos c1]
    refine ⟨hm, ⟨hm, by omega⟩, fin _ _ (Int.emod_nonneg _ (by omega)) (Int.emod_lt_of_pos _ hm) ⟨_, _, rfl, Int.ediv_nonneg h1 (by omega), h2, h3⟩⟩
  · rw [if_neg c1, hN]
    refine seq_g fun N hN => ?_
    simp only [dSeq, dNext, dRet, dRetN, dDrop, dSet, dIfS, dBrk, dCnt, dPar, dAug, dSetIx, dFor, dEsc, dChain, dNever, iEn, iEnS, iEnSK, iZp, dUnp, dVar, dC, dOp, dSl, dSlC, dPart, dNo, dTup, dLst, dLstC, dIf, dNot, dAnd, dOr, rNegD, dCall, dM, dM0, dApp, dFrz, dFz, dLc, dFn, dFn0, dFnK, aCons, aNil,
    qTru, qNot, qAnd, qOr, qYes, iLst, iTp, iStr', iR1, iR2, Tgt.d, setAll, wipeG, rAddD, rSubD, rMulD, rModD, rFdivD, rPowD, rOrdD, rIAddD, rIsN', rIxD, rSlD, rLen, rAbs, rMax2, rMin2, rInt1, rOrd, rListOf, rListOfC, rTupleOf, rIsiD, rAllD, rAnyD, rSumD, rHex, mLower, mUpper, mRfind, mIndex,
    mSplit, mPart, mJoin, mStarts, mEnds, startG, endG, endN, endW, eqS_iff, eqI_iff, eqB_iff, eqL_iff, lsOwn_ls, lsOf_ls, lsOf_rl, sqOf_ls, sqOf_rl, sqOf_tp, tpOf_tp, truD_ls, truD_rl, truD_tp, truD_bl, truD_int, truD_non, cPure, cNew, cBagA, sPure, isNon, flatD, tyD,
    cut_from1, cut_init, atI_0, atI_1, atI_2, atI_last, List.map_cons, List.map_nil, List.cons_append, List.nil_append, List.replicate, List.getElem?_cons_zero, List.getElem?_cons_succ, List.getElem?_nil, List.set_cons_zero, List.set_cons_succ, Option.some.injEq, exists_eq_left', exists_eq_left, Option.some_or, Option.none_or, Option.or_some, List.length_cons, List.length_nil, List.length_map, Nat.sub_zero, Nat.reduceSub, Nat.reduceAdd, Nat.reduceLeDiff, List.isEmpty_cons, List.isEmpty_nil, true_and, and_true, if_true, if_false, reduceIte, Bool.not_true, Bool.not_false, Bool.false_eq_true, reduceCtorEq, List.forall_mem_cons, List.forall_mem_nil, implies_true, List.mem_singleton, forall_eq, decide_eq_true_eq, Bool.not_eq_true', decide_eq_false_iff_not, okM0_iff, List.take_zero, gr_str_iff, gr_int_iff, gr_bl_iff, gr_non_iff, gr_lss_iff, gr_ls0_iff, sqOf_1, lsOf_1, lsOwn_1, ixN_30, ixN_31, ixN_32, setIx_iff, setIx_iff', D.cel.injEq, not_true_eq_false, not_false_eq_true, ixN_20, ixN_21]
    refine ⟨.inr (.inl (by decide)), by decide, ?_⟩
    rw [hN]
    simp only [dSeq, dNext, dRet, dRetN, dDrop, dSet, dIfS, dBrk, dCnt, dPar, dAug, dSetIx, dFor, dEsc, dChain, dNever, iEn, iEnS, iEnSK, iZp, dUnp, dVar, dC, dOp, dSl, dSlC, dPart, dNo, dTup, dLst, dLstC, dIf, dNot, dAnd, dOr, rNegD, dCall, dM, dM0, dApp, dFrz, dFz, dLc, dFn, dFn0, dFnK, aCons, aNil,
    qTru, qNot, qAnd, qOr, qYes, iLst, iTp, iStr', iR1, iR2, Tgt.d, setAll, wipeG, rAddD, rSubD, rMulD, rModD, rFdivD, rPowD, rOrdD, rIAddD, rIsN', rIxD, rSlD, rLen, rAbs, rMax2, rMin2, rInt1, rOrd, rListOf, rListOfC, rTupleOf, rIsiD, rAllD, rAnyD, rSumD, rHex, mLower, mUpper, mRfind, mIndex,
    mSplit, mPart, mJoin, mStarts, mEnds, startG, endG, endN, endW, eqS_iff, eqI_iff, eqB_iff, eqL_iff, lsOwn_ls, lsOf_ls, lsOf_rl, sqOf_ls, sqOf_rl, sqOf_tp, tpOf_tp, truD_ls, truD_rl, truD_tp, truD_bl, truD_int, truD_non, cPure, cNew, cBagA, sPure, isNon, flatD, tyD,
    cut_from1, cut_init, atI_0, atI_1, atI_2, atI_last, List.map_cons, List.map_nil, List.cons_append, List.nil_append, List.replicate, List.getElem?_cons_zero, List.getElem?_cons_succ, List.getElem?_nil, List.set_cons_zero, List.set_cons_succ, Option.some.injEq, exists_eq_left', exists_eq_left, Option.some_or, Option.none_or, Option.or_some, List.length_cons, List.length_nil, List.length_map, Nat.sub_zero, Nat.reduceSub, Nat.reduceAdd, Nat.reduceLeDiff, List.isEmpty_cons, List.isEmpty_nil, true_and, and_true, if_true, if_false, reduceIte, Bool.not_true, Bool.not_false, Bool.false_eq_true, reduceCtorEq, List.forall_mem_cons, List.forall_mem_nil, implies_true, List.mem_singleton, forall_eq, decide_eq_true_eq, Bool.not_eq_true', decide_eq_false_iff_not, okM0_iff, List.take_zero, gr_str_iff, gr_int_iff, gr_bl_iff, gr_non_iff, gr_lss_iff, gr_ls0_iff, sqOf_1, lsOf_1, lsOwn_1, ixN_30, ixN_31, ixN_32, setIx_iff, setIx_iff', D.cel.injEq, not_true_eq_false, not_false_eq_true, ixN_20, ixN_21]
    generalize (s * 48271 + 3571) = z
    have z0 : 0 ≤ z % 2147483587 := by omega
    have z1 : z % 2147483587 < 2147483587 := by omega
    exact ⟨by decide, .inr (.inl (by decide)), by decide, by decide, hm, fin _ _ (Int.emod_nonneg _ (by omega)) (Int.emod_lt_of_pos _ hm) ⟨_, _, rfl, h1, z0, by omega⟩⟩
/-! ### how the bag is made -/
def sp_law_bag : DSpec := fun ds M K _ => ∃ (ns : List Int) (at' : Nat), ds = [.rl (ns.map .int), .int at'] ∧ M = [] ∧ at' ≤ 1000 ∧ ns.length ≤ 63 ∧ ∀ l, BagA l → K (.cel 0) [.ls l]
def lb0_law_bag : DS :=
  (dSet 3 (dOp rModD (dOp rAddD (dOp rAddD (dOp rMulD (dVar 3) (dC (.int 39373))) (dOp rModD (dVar 5) (dC (.int 2147483549)))) (dOp rMulD (dC (.int 97)) (dVar 4))) (dC (.int 2147483549))))
def rd_law_bag : DS :=
  (dSeq (dSet 2 (dIf (qTru (dOp rLtD (dVar 1) (dCall rLen (aCons (dVar 0) aNil)))) (dOp rIxD (dVar 0) (dVar 1)) (dC (.int 0))))
    (dSeq (dSet 3 (dOp rAddD (dOp rMulD (dC (.int 4093)) (dVar 1)) (dC (.int 811))))
    (dSeq (dFor (iEn (aCons (dSl (dVar 0) dNo (dPart (dC (.int 30)))) aNil)) (Tgt.tup [4, 5]) lb0_law_bag)
    (dRet (dLstC (aCons (dIf (qTru (dOp rGeD (dCall rAbs (aCons (dVar 2) aNil)) (dOp rPowD (dC (.int 10)) (dC (.int 18))))) (dCall rAbs (aCons (dVar 2) aNil)) (dC (.int 0))) (aCons (dVar 3) aNil)))))))
theorem sem_law_bag (ds : List D) (M : MM) (K0 : Kd) (R0 : Kx) (h : sp_law_bag ds M K0 R0) : rd_law_bag (endN M.length K0 R0) (startG 6 ds) M := by
  obtain ⟨ns, at', rfl, rfl, ha, hn, k⟩ := h
  unfold rd_law_bag
  refine seq_g fun N hN => ?_
  simp only [dSeq, dNext, dRet, dRetN, dDrop, dSet, dIfS, dBrk, dCnt, dPar, dAug, dSetIx, dFor, dEsc, dChain, dNever, iEn, iEnS, iEnSK, iZp, dUnp, dVar, dC, dOp, dSl, dSlC, dPart, dNo, dTup, dLst, dLstC, dIf, dNot, dAnd, dOr, rNegD, dCall, dM, dM0, dApp, dFrz, dFz, dLc, dFn, dFn0, dFnK, aCons, aNil,
    qTru, qNot, qAnd, qOr, qYes, iLst, iTp, iStr', iR1, iR2, Tgt.d, setAll, wipeG, rAddD, rSubD, rMulD, rModD, rFdivD, rPowD, rOrdD, rIAddD, rIsN', rIxD, rSlD, rLen, rAbs, rMax2, rMin2, rInt1, rOrd, rListOf, rListOfC, rTupleOf, rIsiD, rAllD, rAnyD, rSumD, rHex, mLower, mUpper, mRfind, mIndex,
    mSplit, mPart, mJoin, mStarts, mEnds, startG, endG, endN, endW, eqS_iff, eqI_iff, eqB_iff, eqL_iff, lsOwn_ls, lsOf_ls, lsOf_rl, sqOf_ls, sqOf_rl, sqOf_tp, tpOf_tp, truD_ls, truD_rl, truD_tp, truD_bl, truD_int, truD_non, cPure, cNew, cBagA, sPure, isNon, flatD, tyD,
    cut_from1, cut_init, atI_0, atI_1, atI_2, atI_last, List.map_cons, List.map_nil, List.cons_append, List.nil_append, List.replicate, List.getElem?_cons_zero, List.getElem?_cons_succ, List.getElem?_nil, List.set_cons_zero, List.set_cons_succ, Option.some.injEq, exists_eq_left', exists_eq_left, Option.some_or, Option.none_or, Option.or_some, List.length_cons, List.length_nil, List.length_map, Nat.sub_zero, Nat.reduceSub, Nat.reduceAdd, Nat.reduceLeDiff, List.isEmpty_cons, List.isEmpty_nil, true_and, and_true, if_true, if_false, reduceIte, Bool.not_true, Bool.not_false, Bool.false_eq_true, reduceCtorEq, List.forall_mem_cons, List.forall_mem_nil, implies_true, List.mem_singleton, forall_eq, decide_eq_true_eq, Bool.not_eq_true', decide_eq_false_iff_not, okM0_iff, List.take_zero, gr_str_iff, gr_int_iff, gr_bl_iff, gr_non_iff, gr_lss_iff, gr_ls0_iff, sqOf_1, lsOf_1, lsOwn_1, ixN_30, ixN_31, ixN_32, setIx_iff, setIx_iff', D.cel.injEq, not_true_eq_false, not_false_eq_true]
  have fin : ∀ cell : Int, N [some (.rl (ns.map .int)), some (.int at'), some (.int cell), none, none, none] [] := by
    intro cell
    rw [hN]
    refine seq_g fun N2 hN2 => ?_
    simp only [dSeq, dNext, dRet, dRetN, dDrop, dSet, dIfS, dBrk, dCnt, dPar, dAug, dSetIx, dFor, dEsc, dChain, dNever, iEn, iEnS, iEnSK, iZp, dUnp, dVar, dC, dOp, dSl, dSlC, dPart, dNo, dTup, dLst, dLstC, dIf, dNot, dAnd, dOr, rNegD, dCall, dM, dM0, dApp, dFrz, dFz, dLc, dFn, dFn0, dFnK, aCons, aNil,
    qTru, qNot, qAnd, qOr, qYes, iLst, iTp, iStr', iR1, iR2, Tgt.d, setAll, wipeG, rAddD, rSubD, rMulD, rModD, rFdivD, rPowD, rOrdD, rIAddD, rIsN', rIxD, rSlD, rLen, rAbs, rMax2, rMin2, rInt1, rOrd, rListOf, rListOfC, rTupleOf, rIsiD, rAllD, rAnyD, rSumD, rHex, mLower, mUpper, mRfind, mIndex,
    mSplit, mPart, mJoin, mStarts, mEnds, startG, endG, endN, endW, eqS_iff, eqI_iff, eqB_iff, eqL_iff, lsOwn_ls, lsOf_ls, lsOf_rl, sqOf_ls, sqOf_rl, sqOf_tp, tpOf_tp, truD_ls, truD_rl, truD_tp, truD_bl, truD_int, truD_non, cPure, cNew, cBagA, sPure, isNon, flatD, tyD,
    cut_from1, cut_init, atI_0, atI_1, atI_2, atI_last, List.map_cons, List.map_nil, List.cons_append, List.nil_append, List.replicate, List.getElem?_cons_zero, List.getElem?_cons_succ, List.getElem?_nil, List.set_cons_zero, List.set_cons_succ, Option.some.injEq, exists_eq_left', exists_eq_left, Option.some_or, Option.none_or, Option.or_some, List.length_cons, List.length_nil, List.length_map, Nat.sub_zero, Nat.reduceSub, Nat.reduceAdd, Nat.reduceLeDiff, List.isEmpty_cons, List.isEmpty_nil, true_and, and_true, if_true, if_false, reduceIte, Bool.not_true, Bool.not_false, Bool.false_eq_true, reduceCtorEq, List.forall_mem_cons, List.forall_mem_nil, implies_true, List.mem_singleton, forall_eq, decide_eq_true_eq, Bool.not_eq_true', decide_eq_false_iff_not, okM0_iff, List.take_zero, gr_str_iff, gr_int_iff, gr_bl_iff, gr_non_iff, gr_lss_iff, gr_ls0_iff, sqOf_1, lsOf_1, lsOwn_1, ixN_30, ixN_31, ixN_32, setIx_iff, setIx_iff', D.cel.injEq, not_true_eq_false, not_false_eq_true]
    refine ⟨.inl (by decide), ?_⟩
    rw [hN2]
    refine seq_g fun N3 hN3 => ?_
    simp only [dSeq, dNext, dRet, dRetN, dDrop, dSet, dIfS, dBrk, dCnt, dPar, dAug, dSetIx, dFor, dEsc, dChain, dNever, iEn, iEnS, iEnSK, iZp, dUnp, dVar, dC, dOp, dSl, dSlC, dPart, dNo, dTup, dLst, dLstC, dIf, dNot, dAnd, dOr, rNegD, dCall, dM, dM0, dApp, dFrz, dFz, dLc, dFn, dFn0, dFnK, aCons, aNil,
    qTru, qNot, qAnd, qOr, qYes, iLst, iTp, iStr', iR1, iR2, Tgt.d, setAll, wipeG, rAddD, rSubD, rMulD, rModD, rFdivD, rPowD, rOrdD, rIAddD, rIsN', rIxD, rSlD, rLen, rAbs, rMax2, rMin2, rInt1, rOrd, rListOf, rListOfC, rTupleOf, rIsiD, rAllD, rAnyD, rSumD, rHex, mLower, mUpper, mRfind, mIndex,
    mSplit, mPart, mJoin, mStarts, mEnds, startG, endG, endN, endW, eqS_iff, eqI_iff, eqB_iff, eqL_iff, lsOwn_ls, lsOf_ls, lsOf_rl, sqOf_ls, sqOf_rl, sqOf_tp, tpOf_tp, truD_ls, truD_rl, truD_tp, truD_bl, truD_int, truD_non, cPure, cNew, cBagA, sPure, isNon, flatD, tyD,
    cut_from1, cut_init, atI_0, atI_1, atI_2, atI_last, List.map_cons, List.map_nil, List.cons_append, List.nil_append, List.replicate, List.getElem?_cons_zero, List.getElem?_cons_succ, List.getElem?_nil, List.set_cons_zero, List.set_cons_succ, Option.some.injEq, exists_eq_left', exists_eq_left, Option.some_or, Option.none_or, Option.or_some, List.length_cons, List.length_nil, List.length_map, Nat.sub_zero, Nat.reduceSub, Nat.reduceAdd, Nat.reduceLeDiff, List.isEmpty_cons, List.isEmpty_nil, true_and, and_true, if_true, if_false, reduceIte, Bool.not_true, Bool.not_false, Bool.false_eq_true, reduceCtorEq, List.forall_mem_cons, List.forall_mem_nil, implies_true, List.mem_singleton, forall_eq, decide_eq_true_eq, Bool.not_eq_true', decide_eq_false_iff_not, okM0_iff, List.take_zero, gr_str_iff, gr_int_iff, gr_bl_iff, gr_non_iff, gr_lss_iff, gr_ls0_iff, sqOf_1, lsOf_1, lsOwn_1, ixN_30, ixN_31, ixN_32, setIx_iff, setIx_iff', D.cel.injEq, not_true_eq_false, not_false_eq_true]
    refine ⟨_, _, rfl, rfl, ?_⟩
    refine for_ind (P := fun l Γ M => (∀ d ∈ l, ∃ i z : Int, d = .tp [.int i, .int z]) ∧ M = [] ∧ ∃ mx o4 o5, Γ = [some (.rl (ns.map .int)), some (.int at'), some (.int cell), some (.int mx), o4, o5] ∧ 0 ≤ mx ∧ mx ≤ 2147483549) ?_ ?_ _ _ _ ⟨?_, rfl, _, none, none, rfl, by omega, by omega⟩
    · rintro Γ M ⟨_, rfl, mx, o4, o5, rfl, m0, m1⟩
      refine ⟨rfl, ?_⟩
      show N3 _ _
      rw [hN3]
      simp only [dSeq, dNext, dRet, dRetN, dDrop, dSet, dIfS, dBrk, dCnt, dPar, dAug, dSetIx, dFor, dEsc, dChain, dNever, iEn, iEnS, iEnSK, iZp, dUnp, dVar, dC, dOp, dSl, dSlC, dPart, dNo, dTup, dLst, dLstC, dIf, dNot, dAnd, dOr, rNegD, dCall, dM, dM0, dApp, dFrz, dFz, dLc, dFn, dFn0, dFnK, aCons, aNil,
    qTru, qNot, qAnd, qOr, qYes, iLst, iTp, iStr', iR1, iR2, Tgt.d, setAll, wipeG, rAddD, rSubD, rMulD, rModD, rFdivD, rPowD, rOrdD, rIAddD, rIsN', rIxD, rSlD, rLen, rAbs, rMax2, rMin2, rInt1, rOrd, rListOf, rListOfC, rTupleOf, rIsiD, rAllD, rAnyD, rSumD, rHex, mLower, mUpper, mRfind, mIndex,
    mSplit, mPart, mJoin, mStarts, mEnds, startG, endG, endN, endW, eqS_iff, eqI_iff, eqB_iff, eqL_iff, lsOwn_ls, lsOf_ls, lsOf_rl, sqOf_ls, sqOf_rl, sqOf_tp, tpOf_tp, truD_ls, truD_rl, truD_tp, truD_bl, truD_int, truD_non, cPure, cNew, cBagA, sPure, isNon, flatD, tyD,
    cut_from1, cut_init, atI_0, atI_1, atI_2, atI_last, List.map_cons, List.map_nil, List.cons_append, List.nil_append, List.replicate, List.getElem?_cons_zero, List.getElem?_cons_succ, List.getElem?_nil, List.set_cons_zero, List.set_cons_succ, Option.some.injEq, exists_eq_left', exists_eq_left, Option.some_or, Option.none_or, Option.or_some, List.length_cons, List.length_nil, List.length_map, Nat.sub_zero, Nat.reduceSub, Nat.reduceAdd, Nat.reduceLeDiff, List.isEmpty_cons, List.isEmpty_nil, true_and, and_true, if_true, if_false, reduceIte, Bool.not_true, Bool.not_false, Bool.false_eq_true, reduceCtorEq, List.forall_mem_cons, List.forall_mem_nil, implies_true, List.mem_singleton, forall_eq, decide_eq_true_eq, Bool.not_eq_true', decide_eq_false_iff_not, okM0_iff, List.take_zero, gr_str_iff, gr_int_iff, gr_bl_iff, gr_non_iff, gr_lss_iff, gr_ls0_iff, sqOf_1, lsOf_1, lsOwn_1, ixN_30, ixN_31, ixN_32, setIx_iff, setIx_iff', D.cel.injEq, not_true_eq_false, not_false_eq_true]
      refine ⟨by decide, ?_⟩
      have a0 := abs0 cell
      generalize (if cell < 0 then -cell else cell) = v at a0 ⊢
      split
      · exact ⟨_, _, rfl, Nat.zero_le _, rfl, gr_ints [_, _], k _ ⟨_, _, rfl, a0, m0, by omega⟩⟩
      · exact ⟨_, _, rfl, Nat.zero_le _, rfl, gr_ints [0, _], k _ ⟨0, _, rfl, by omega, m0, by omega⟩⟩
    · rintro d r Γ M N4 hN4 ⟨hd, rfl, mx, o4, o5, rfl, m0, m1⟩
      obtain ⟨i, z, rfl⟩ := hd _ List.mem_cons_self
      refine ⟨rfl, ?_⟩
      simp only [lb0_law_bag, dSeq, dNext, dRet, dRetN, dDrop, dSet, dIfS, dBrk, dCnt, dPar, dAug, dSetIx, dFor, dEsc, dChain, dNever, iEn, iEnS, iEnSK, iZp, dUnp, dVar, dC, dOp, dSl, dSlC, dPart, dNo, dTup, dLst, dLstC, dIf, dNot, dAnd, dOr, rNegD, dCall, dM, dM0, dApp, dFrz, dFz, dLc, dFn, dFn0, dFnK, aCons, aNil,
    qTru, qNot, qAnd, qOr, qYes, iLst, iTp, iStr', iR1, iR2, Tgt.d, setAll, wipeG, rAddD, rSubD, rMulD, rModD, rFdivD, rPowD, rOrdD, rIAddD, rIsN', rIxD, rSlD, rLen, rAbs, rMax2, rMin2, rInt1, rOrd, rListOf, rListOfC, rTupleOf, rIsiD, rAllD, rAnyD, rSumD, rHex, mLower, mUpper, mRfind, mIndex,
    mSplit, mPart, mJoin, mStarts, mEnds, startG, endG, endN, endW, eqS_iff, eqI_iff, eqB_iff, eqL_iff, lsOwn_ls, lsOf_ls, lsOf_rl, sqOf_ls, sqOf_rl, sqOf_tp, tpOf_tp, truD_ls, truD_rl, truD_tp, truD_bl, truD_int, truD_non, cPure, cNew, cBagA, sPure, isNon, flatD, tyD,
    cut_from1, cut_init, atI_0, atI_1, atI_2, atI_last, List.map_cons, List.map_nil, List.cons_append, List.nil_append, List.replicate, List.getElem?_cons_zero, List.getElem?_cons_succ, List.getElem?_nil, List.set_cons_zero, List.set_cons_succ, Option.some.injEq, exists_eq_left', exists_eq_left, Option.some_or, Option.none_or, Option.or_some, List.length_cons, List.length_nil, List.length_map, Nat.sub_zero, Nat.reduceSub, Nat.reduceAdd, Nat.reduceLeDiff, List.isEmpty_cons, List.isEmpty_nil, true_and, and_true, if_true, if_false, reduceIte, Bool.not_true, Bool.not_false, Bool.false_eq_true, reduceCtorEq, List.forall_mem_cons, List.forall_mem_nil, implies_true, List.mem_singleton, forall_eq, decide_eq_true_eq, Bool.not_eq_true', decide_eq_false_iff_not, okM0_iff, List.take_zero, gr_str_iff, gr_int_iff, gr_bl_iff, gr_non_iff, gr_lss_iff, gr_ls0_iff, sqOf_1, lsOf_1, lsOwn_1, ixN_30, ixN_31, ixN_32, setIx_iff, setIx_iff', D.cel.injEq, not_true_eq_false, not_false_eq_true]
      refine ⟨.inr (.inl (by decide)), by decide, .inl (by decide), by decide, hN4 _ _ ⟨fun e he => hd e (List.mem_cons_of_mem _ he), rfl, _, _, _, rfl, by omega, by omega⟩⟩
    · intro d hd
      unfold enD at hd
      obtain ⟨i, hi, rfl⟩ := List.mem_mapIdx.mp hd
      have hm : (cut (ns.map D.int) none (some 30))[i] ∈ ns.map D.int := List.mem_of_mem_drop (List.mem_of_mem_take (List.getElem_mem hi))
      obtain ⟨z, _, hz⟩ := List.mem_map.mp hm
      exact ⟨i, z, by rw [hz]; rfl⟩
  split
  · rename_i h
    have h : at' < ns.length := by omega
    refine ⟨.int ns[at'], ?_, fin _⟩
    rw [atI_nat, List.getElem?_map, List.getElem?_eq_getElem h]
    rfl
  · exact fin 0
theorem take_callA {Γ : G} {M : MM} {K : Kd} {R : Rx} {l : List D} {m : Int} {k : Nat} (hM : M[k]? = some (.ls l)) (hb : BagA l) (h0 : 0 < m) (h1 : m < 1000000) (h : ∀ x l', 0 ≤ x → x < m → BagA l' → K (.int x) (M.set k (.ls l'))) :
    cBagA 0 sp_law_take Γ [.cel k, .int m] M K R := by
  refine ⟨k, rfl, _, hM, hb.gr, ?_, l, m, ?_, rfl, hb, h0, h1, fun x l' a b c => ⟨_, rfl, c.gr, trivial, h x l' a b c⟩⟩
  · intro d hd
    rcases List.mem_cons.mp hd with e | e
    · exact .inl e
    · rw [List.mem_singleton.mp e]; exact .inr trivial
  · simp [unC]
/-- any draw by the bag of two -/
def DrawA (args : List D) (Good : D → Prop) : DSpec := fun ds M K _ => ∃ (l : List D), ds = .cel 0 :: args ∧ M = [.ls l] ∧ BagA l ∧ ∀ d l', Good d → BagA l' → K d [.ls l']
theorem drawA_call {args : List D} {Good : D → Prop} {Γ : G} {M : MM} {K : Kd} {R : Rx} {l : List D} {k : Nat} (hM : M[k]? = some (.ls l)) (hb : BagA l) (hg : ∀ d ∈ args, Gr d) (hG : ∀ d, Good d → Gr d) (h : ∀ d l', Good d → BagA l' → K d (M.set k (.ls l'))) :
    cBagA 0 (DrawA args Good) Γ (.cel k :: args) M K R := by
  refine ⟨k, rfl, _, hM, hb.gr, ?_, l, ?_, rfl, hb, fun d l' a c => ⟨_, rfl, c.gr, hG d a, h d l' a c⟩⟩
  · intro d hd
    rcases List.mem_cons.mp hd with e | e
    · exact .inl e
    · exact .inr (hg d e)
  · rw [List.map_cons]
    congr 1
    · simp [unC]
    · conv => rhs; rw [← List.map_id args]
      refine List.map_congr_left fun d hd => ?_
      have := hg d hd
      cases d <;> first | rfl | exact absurd this (by simp [Gr])
theorem cBagA_imp {S S' : DSpec} {j : Nat} {Γ : G} {ds : List D} {M : MM} {K : Kd} {R : Rx} (h : ∀ ds M K R, S ds M K R → S' ds M K R) (c : cBagA j S Γ ds M K R) : cBagA j S' Γ ds M K R := by
  obtain ⟨k, a, l, b, c, d, e⟩ := c
  exact ⟨k, a, l, b, c, d, h _ _ _ _ e⟩
end L3

namespace L3
open PySem PySem.Spec PyProof.Rows L2 Evl
open Classical
local macro_rules | `(tactic| dsimp! [$xs,*]) => `(tactic| simp only [dSeq, dNext, dRet, dRetN, dDrop, dSet, dIfS, dBrk, dCnt, dPar, dAug, dSetIx, dFor, dEsc, dChain, dNever, iEn, iEnS, iEnSK, iZp, dUnp, dVar, dC, dOp, dSl, dSlC, dPart, dNo, dTup, dLst, dLstC, dIf, dNot, dAnd, dOr, rNegD, dCall, dM, dM0, dApp, dFrz, dFz, dLc, dFn, dFn0, dFnK, aCons, aNil,
    qTru, qNot, qAnd, qOr, qYes, iLst, iTp, iStr', iR1, iR2, Tgt.d, setAll, wipeG, rAddD, rSubD, rMulD, rModD, rFdivD, rPowD, rOrdD, rIAddD, rIsN', rIxD, rSlD, rLen, rAbs, rMax2, rMin2, rInt1, rOrd, rListOf, rListOfC, rTupleOf, rIsiD, rAllD, rAnyD, rSumD, rHex, mLower, mUpper, mRfind, mIndex,
    mSplit, mPart, mJoin, mStarts, mEnds, startG, endG, endN, endW, eqS_iff, eqI_iff, eqB_iff, eqL_iff, lsOwn_ls, lsOf_ls, lsOf_rl, sqOf_ls, sqOf_rl, sqOf_tp, tpOf_tp, truD_ls, truD_rl, truD_tp, truD_bl, truD_int, truD_non, cPure, cNew, cBagA, sPure, isNon, flatD, tyD,
    cut_from1, cut_init, atI_0, atI_1, atI_2, atI_last, List.map_cons, List.map_nil, List.cons_append, List.nil_append, List.replicate, List.getElem?_cons_zero, List.getElem?_cons_succ, List.getElem?_nil, List.set_cons_zero, List.set_cons_succ, Option.some.injEq, exists_eq_left', exists_eq_left, Option.some_or, Option.none_or, Option.or_some, List.length_cons, List.length_nil, List.length_map, Nat.sub_zero, Nat.reduceSub, Nat.reduceAdd, Nat.reduceLeDiff, List.isEmpty_cons, List.isEmpty_nil, true_and, and_true, if_true, if_false, reduceIte, Bool.not_true, Bool.not_false, Bool.false_eq_true, reduceCtorEq, List.forall_mem_cons, List.forall_mem_nil, implies_true, List.mem_singleton, forall_eq, decide_eq_true_eq, Bool.not_eq_true', decide_eq_false_iff_not, okM0_iff, List.take_zero, gr_str_iff, gr_int_iff, gr_bl_iff, gr_non_iff, gr_lss_iff, gr_ls0_iff, sqOf_1, lsOf_1, lsOwn_1, ixN_30, ixN_31, ixN_32, setIx_iff, setIx_iff', D.cel.injEq, not_true_eq_false, not_false_eq_true, $xs,*])


abbrev allS : Tx := [32, 33, 34, 35, 36, 38, 39, 40, 41, 42, 43, 44, 45, 46, 47, 48, 49, 50, 51, 52, 53, 54, 55, 56, 57, 58, 59, 60, 61, 62, 63, 64, 65, 66, 67, 68, 69, 70, 71, 72, 73, 74, 75, 76, 77, 78, 79, 80, 81, 82, 83, 84, 85, 86, 87, 88, 89, 90, 91, 92, 93, 94, 95, 96, 97, 98, 99, 100, 101, 102, 103, 104, 105, 106, 107, 108, 109, 110, 111, 112, 113, 114, 115, 116, 117, 118, 119, 120, 121, 122, 123, 124, 125, 126]
def sp_law_signs : DSpec := fun ds M K _ => ds = [] ∧ M = [] ∧ K (.str allS) []
def rd_law_signs : DS :=
  (dRet (dC (.str [32, 33, 34, 35, 36, 38, 39, 40, 41, 42, 43, 44, 45, 46, 47, 48, 49, 50, 51, 52, 53, 54, 55, 56, 57, 58, 59, 60, 61, 62, 63, 64, 65, 66, 67, 68, 69, 70, 71, 72, 73, 74, 75, 76, 77, 78, 79, 80, 81, 82, 83, 84, 85, 86, 87, 88, 89, 90, 91, 92, 93, 94, 95, 96, 97, 98, 99, 100, 101, 102, 103, 104, 105, 106, 107, 108, 109, 110, 111, 112, 113, 114, 115, 116, 117, 118, 119, 120, 121, 122, 123, 124, 125, 126])))
theorem sem_law_signs (ds : List D) (M : MM) (K0 : Kd) (R0 : Kx) (h : sp_law_signs ds M K0 R0) : rd_law_signs (endG M.length K0 R0) (startG 0 ds) M := by
  obtain ⟨rfl, rfl, k⟩ := h
  simp only [rd_law_signs, dSeq, dNext, dRet, dRetN, dDrop, dSet, dIfS, dBrk, dCnt, dPar, dAug, dSetIx, dFor, dEsc, dChain, dNever, iEn, iEnS, iEnSK, iZp, dUnp, dVar, dC, dOp, dSl, dSlC, dPart, dNo, dTup, dLst, dLstC, dIf, dNot, dAnd, dOr, rNegD, dCall, dM, dM0, dApp, dFrz, dFz, dLc, dFn, dFn0, dFnK, aCons, aNil,
    qTru, qNot, qAnd, qOr, qYes, iLst, iTp, iStr', iR1, iR2, Tgt.d, setAll, wipeG, rAddD, rSubD, rMulD, rModD, rFdivD, rPowD, rOrdD, rIAddD, rIsN', rIxD, rSlD, rLen, rAbs, rMax2, rMin2, rInt1, rOrd, rListOf, rListOfC, rTupleOf, rIsiD, rAllD, rAnyD, rSumD, rHex, mLower, mUpper, mRfind, mIndex,
    mSplit, mPart, mJoin, mStarts, mEnds, startG, endG, endN, endW, eqS_iff, eqI_iff, eqB_iff, eqL_iff, lsOwn_ls, lsOf_ls, lsOf_rl, sqOf_ls, sqOf_rl, sqOf_tp, tpOf_tp, truD_ls, truD_rl, truD_tp, truD_bl, truD_int, truD_non, cPure, cNew, cBagA, sPure, isNon, flatD, tyD,
    cut_from1, cut_init, atI_0, atI_1, atI_2, atI_last, List.map_cons, List.map_nil, List.cons_append, List.nil_append, List.replicate, List.getElem?_cons_zero, List.getElem?_cons_succ, List.getElem?_nil, List.set_cons_zero, List.set_cons_succ, Option.some.injEq, exists_eq_left', exists_eq_left, Option.some_or, Option.none_or, Option.or_some, List.length_cons, List.length_nil, List.length_map, Nat.sub_zero, Nat.reduceSub, Nat.reduceAdd, Nat.reduceLeDiff, List.isEmpty_cons, List.isEmpty_nil, true_and, and_true, if_true, if_false, reduceIte, Bool.not_true, Bool.not_false, Bool.false_eq_true, reduceCtorEq, List.forall_mem_cons, List.forall_mem_nil, implies_true, List.mem_singleton, forall_eq, decide_eq_true_eq, Bool.not_eq_true', decide_eq_false_iff_not, okM0_iff, List.take_zero, gr_str_iff, gr_int_iff, gr_bl_iff, gr_non_iff, gr_lss_iff, gr_ls0_iff, sqOf_1, lsOf_1, lsOwn_1, ixN_30, ixN_31, ixN_32, setIx_iff, setIx_iff', D.cel.injEq, not_true_eq_false, not_false_eq_true]
  exact k
def sp_law_plain : DSpec := fun ds M K _ => ds = [] ∧ M = [] ∧ K (.str plainS) []
def rd_law_plain : DS :=
  (dRet (dC (.str [45, 46, 48, 49, 50, 51, 52, 53, 54, 55, 56, 57, 65, 66, 67, 68, 69, 70, 71, 72, 73, 74, 75, 76, 77, 78, 79, 80, 81, 82, 83, 84, 85, 86, 87, 88, 89, 90, 95, 97, 98, 99, 100, 101, 102, 103, 104, 105, 106, 107, 108, 109, 110, 111, 112, 113, 114, 115, 116, 117, 118, 119, 120, 121, 122, 126])))
theorem sem_law_plain (ds : List D) (M : MM) (K0 : Kd) (R0 : Kx) (h : sp_law_plain ds M K0 R0) : rd_law_plain (endG M.length K0 R0) (startG 0 ds) M := by
  obtain ⟨rfl, rfl, k⟩ := h
  simp only [rd_law_plain, dSeq, dNext, dRet, dRetN, dDrop, dSet, dIfS, dBrk, dCnt, dPar, dAug, dSetIx, dFor, dEsc, dChain, dNever, iEn, iEnS, iEnSK, iZp, dUnp, dVar, dC, dOp, dSl, dSlC, dPart, dNo, dTup, dLst, dLstC, dIf, dNot, dAnd, dOr, rNegD, dCall, dM, dM0, dApp, dFrz, dFz, dLc, dFn, dFn0, dFnK, aCons, aNil,
    qTru, qNot, qAnd, qOr, qYes, iLst, iTp, iStr', iR1, iR2, Tgt.d, setAll, wipeG, rAddD, rSubD, rMulD, rModD, rFdivD, rPowD, rOrdD, rIAddD, rIsN', rIxD, rSlD, rLen, rAbs, rMax2, rMin2, rInt1, rOrd, rListOf, rListOfC, rTupleOf, rIsiD, rAllD, rAnyD, rSumD, rHex, mLower, mUpper, mRfind, mIndex,
    mSplit, mPart, mJoin, mStarts, mEnds, startG, endG, endN, endW, eqS_iff, eqI_iff, eqB_iff, eqL_iff, lsOwn_ls, lsOf_ls, lsOf_rl, sqOf_ls, sqOf_rl, sqOf_tp, tpOf_tp, truD_ls, truD_rl, truD_tp, truD_bl, truD_int, truD_non, cPure, cNew, cBagA, sPure, isNon, flatD, tyD,
    cut_from1, cut_init, atI_0, atI_1, atI_2, atI_last, List.map_cons, List.map_nil, List.cons_append, List.nil_append, List.replicate, List.getElem?_cons_zero, List.getElem?_cons_succ, List.getElem?_nil, List.set_cons_zero, List.set_cons_succ, Option.some.injEq, exists_eq_left', exists_eq_left, Option.some_or, Option.none_or, Option.or_some, List.length_cons, List.length_nil, List.length_map, Nat.sub_zero, Nat.reduceSub, Nat.reduceAdd, Nat.reduceLeDiff, List.isEmpty_cons, List.isEmpty_nil, true_and, and_true, if_true, if_false, reduceIte, Bool.not_true, Bool.not_false, Bool.false_eq_true, reduceCtorEq, List.forall_mem_cons, List.forall_mem_nil, implies_true, List.mem_singleton, forall_eq, decide_eq_true_eq, Bool.not_eq_true', decide_eq_false_iff_not, okM0_iff, List.take_zero, gr_str_iff, gr_int_iff, gr_bl_iff, gr_non_iff, gr_lss_iff, gr_ls0_iff, sqOf_1, lsOf_1, lsOwn_1, ixN_30, ixN_31, ixN_32, setIx_iff, setIx_iff', D.cel.injEq, not_true_eq_false, not_false_eq_true]
  exact k
def sp_law_is_escape : DSpec := fun ds M K _ => ∃ (t : Tx) (i : Nat), ds = [.str t, .int i] ∧ M = [] ∧ t.length ≤ 100000 ∧ K (.bl (escAt t i)) []
def rd_law_is_escape : DS :=
  (dSeq (dSet 2 (dSl (dVar 0) (dPart (dOp rAddD (dVar 1) (dC (.int 1)))) (dPart (dOp rAddD (dVar 1) (dC (.int 3))))))
    (dSeq (dIfS (qOr (qTru (dOp (rEqD' true) (dSl (dVar 0) (dPart (dVar 1)) (dPart (dOp rAddD (dVar 1) (dC (.int 1))))) (dC (.str [94])))) (qTru (dOp (rEqD' true) (dCall rLen (aCons (dVar 2) aNil)) (dC (.int 2)))))
    (dRet (dC (.bl false)))
    dNext)
    (dRet (dCall rAllD (aCons (dLc (iStr' (dVar 2)) (Tgt.nm 3) qYes (dOp (rInD false) (dVar 3) (dC (.str [48, 49, 50, 51, 52, 53, 54, 55, 56, 57, 97, 98, 99, 100, 101, 102, 65, 66, 67, 68, 69, 70]))) [3]) aNil)))))
def sp_law_escape : DSpec := fun ds M K _ => ∃ (o : Nat) (b : Bool), ds = [.int o, .bl b] ∧ M = [] ∧ o < 256 ∧ K (.str (94 :: (if b then (hexT o).map lowC else hexT o))) []
def rd_law_escape : DS :=
  (dSeq (dSet 2 (dOp rAddD (dOp rIxD (dC (.str [48, 49, 50, 51, 52, 53, 54, 55, 56, 57, 65, 66, 67, 68, 69, 70])) (dOp rFdivD (dVar 0) (dC (.int 16)))) (dOp rIxD (dC (.str [48, 49, 50, 51, 52, 53, 54, 55, 56, 57, 65, 66, 67, 68, 69, 70])) (dOp rModD (dVar 0) (dC (.int 16))))))
    (dRet (dOp rAddD (dC (.str [94])) (dIf (qTru (dVar 1)) (dM0 mLower (dVar 2)) (dVar 2)))))
theorem dig_at : ∀ d : _root_.Fin 16, ([48, 49, 50, 51, 52, 53, 54, 55, 56, 57, 65, 66, 67, 68, 69, 70] : Tx)[d.val]? = some (hexC d.val) := by decide +kernel
theorem sem_law_escape (ds : List D) (M : MM) (K0 : Kd) (R0 : Kx) (h : sp_law_escape ds M K0 R0) : rd_law_escape (endG M.length K0 R0) (startG 3 ds) M := by
  obtain ⟨o, b, rfl, rfl, ho, k⟩ := h
  unfold rd_law_escape
  refine seq_g fun N hN => ?_
  simp only [dSeq, dNext, dRet, dRetN, dDrop, dSet, dIfS, dBrk, dCnt, dPar, dAug, dSetIx, dFor, dEsc, dChain, dNever, iEn, iEnS, iEnSK, iZp, dUnp, dVar, dC, dOp, dSl, dSlC, dPart, dNo, dTup, dLst, dLstC, dIf, dNot, dAnd, dOr, rNegD, dCall, dM, dM0, dApp, dFrz, dFz, dLc, dFn, dFn0, dFnK, aCons, aNil,
    qTru, qNot, qAnd, qOr, qYes, iLst, iTp, iStr', iR1, iR2, Tgt.d, setAll, wipeG, rAddD, rSubD, rMulD, rModD, rFdivD, rPowD, rOrdD, rIAddD, rIsN', rIxD, rSlD, rLen, rAbs, rMax2, rMin2, rInt1, rOrd, rListOf, rListOfC, rTupleOf, rIsiD, rAllD, rAnyD, rSumD, rHex, mLower, mUpper, mRfind, mIndex,
    mSplit, mPart, mJoin, mStarts, mEnds, startG, endG, endN, endW, eqS_iff, eqI_iff, eqB_iff, eqL_iff, lsOwn_ls, lsOf_ls, lsOf_rl, sqOf_ls, sqOf_rl, sqOf_tp, tpOf_tp, truD_ls, truD_rl, truD_tp, truD_bl, truD_int, truD_non, cPure, cNew, cBagA, sPure, isNon, flatD, tyD,
    cut_from1, cut_init, atI_0, atI_1, atI_2, atI_last, List.map_cons, List.map_nil, List.cons_append, List.nil_append, List.replicate, List.getElem?_cons_zero, List.getElem?_cons_succ, List.getElem?_nil, List.set_cons_zero, List.set_cons_succ, Option.some.injEq, exists_eq_left', exists_eq_left, Option.some_or, Option.none_or, Option.or_some, List.length_cons, List.length_nil, List.length_map, Nat.sub_zero, Nat.reduceSub, Nat.reduceAdd, Nat.reduceLeDiff, List.isEmpty_cons, List.isEmpty_nil, true_and, and_true, if_true, if_false, reduceIte, Bool.not_true, Bool.not_false, Bool.false_eq_true, reduceCtorEq, List.forall_mem_cons, List.forall_mem_nil, implies_true, List.mem_singleton, forall_eq, decide_eq_true_eq, Bool.not_eq_true', decide_eq_false_iff_not, okM0_iff, List.take_zero, gr_str_iff, gr_int_iff, gr_bl_iff, gr_non_iff, gr_lss_iff, gr_ls0_iff, sqOf_1, lsOf_1, lsOwn_1, ixN_30, ixN_31, ixN_32, setIx_iff, setIx_iff', D.cel.injEq, not_true_eq_false, not_false_eq_true]
  have e1 : ((o : Int) / 16) = ((o / 16 : Nat) : Int) := by omega
  have e2 : ((o : Int) % 16) = ((o % 16 : Nat) : Int) := by omega
  rw [e1, e2]
  refine ⟨by decide, hexC (o / 16), ?_, by decide, hexC (o % 16), ?_, ?_⟩
  · rw [atI_nat]
    exact dig_at ⟨o / 16, by omega⟩
  · rw [atI_nat]
    exact dig_at ⟨o % 16, by omega⟩
  rw [hN]
  simp only [dSeq, dNext, dRet, dRetN, dDrop, dSet, dIfS, dBrk, dCnt, dPar, dAug, dSetIx, dFor, dEsc, dChain, dNever, iEn, iEnS, iEnSK, iZp, dUnp, dVar, dC, dOp, dSl, dSlC, dPart, dNo, dTup, dLst, dLstC, dIf, dNot, dAnd, dOr, rNegD, dCall, dM, dM0, dApp, dFrz, dFz, dLc, dFn, dFn0, dFnK, aCons, aNil,
    qTru, qNot, qAnd, qOr, qYes, iLst, iTp, iStr', iR1, iR2, Tgt.d, setAll, wipeG, rAddD, rSubD, rMulD, rModD, rFdivD, rPowD, rOrdD, rIAddD, rIsN', rIxD, rSlD, rLen, rAbs, rMax2, rMin2, rInt1, rOrd, rListOf, rListOfC, rTupleOf, rIsiD, rAllD, rAnyD, rSumD, rHex, mLower, mUpper, mRfind, mIndex,
    mSplit, mPart, mJoin, mStarts, mEnds, startG, endG, endN, endW, eqS_iff, eqI_iff, eqB_iff, eqL_iff, lsOwn_ls, lsOf_ls, lsOf_rl, sqOf_ls, sqOf_rl, sqOf_tp, tpOf_tp, truD_ls, truD_rl, truD_tp, truD_bl, truD_int, truD_non, cPure, cNew, cBagA, sPure, isNon, flatD, tyD,
    cut_from1, cut_init, atI_0, atI_1, atI_2, atI_last, List.map_cons, List.map_nil, List.cons_append, List.nil_append, List.replicate, List.getElem?_cons_zero, List.getElem?_cons_succ, List.getElem?_nil, List.set_cons_zero, List.set_cons_succ, Option.some.injEq, exists_eq_left', exists_eq_left, Option.some_or, Option.none_or, Option.or_some, List.length_cons, List.length_nil, List.length_map, Nat.sub_zero, Nat.reduceSub, Nat.reduceAdd, Nat.reduceLeDiff, List.isEmpty_cons, List.isEmpty_nil, true_and, and_true, if_true, if_false, reduceIte, Bool.not_true, Bool.not_false, Bool.false_eq_true, reduceCtorEq, List.forall_mem_cons, List.forall_mem_nil, implies_true, List.mem_singleton, forall_eq, decide_eq_true_eq, Bool.not_eq_true', decide_eq_false_iff_not, okM0_iff, List.take_zero, gr_str_iff, gr_int_iff, gr_bl_iff, gr_non_iff, gr_lss_iff, gr_ls0_iff, sqOf_1, lsOf_1, lsOwn_1, ixN_30, ixN_31, ixN_32, setIx_iff, setIx_iff', D.cel.injEq, not_true_eq_false, not_false_eq_true]
  cases b with
  | true => exact k
  | false => exact k


abbrev hexSigns2 : Tx := [48, 49, 50, 51, 52, 53, 54, 55, 56, 57, 97, 98, 99, 100, 101, 102, 65, 66, 67, 68, 69, 70]
theorem mem_hex2 (c : Nat) : decide (c ∈ hexSigns2) = isHexB c := by
  unfold isHexB
  rw [Bool.eq_iff_iff]
  simp only [decide_eq_true_eq, Bool.or_eq_true, hexSigns2, List.mem_cons, List.not_mem_nil, or_false]
  omega
theorem comp_hex2 {chk : MM → Prop} (hc : ∀ M, chk M) {Γw : G} (hl : Γw.length = 4) {K : Kd} (q : Tx) (hq : q.length ≤ 1000) (k : K (.ls ((q.map isHexB).map .bl)) []) :
    compD chk (Tgt.nm 3) qYes (dOp (rInD false) (dVar 3) (dC (.str hexSigns2))) Γw K (q.map fun c => .str [c]) [] [] := by
  refine comp_ind (P := fun r acc M => ∃ (a b : Tx), r = b.map (fun c => .str [c]) ∧ acc = (a.map isHexB).map .bl ∧ M = [] ∧ a ++ b = q ∧ acc.length + b.length ≤ 16777216) ?_ ?_ _ _ _ ⟨[], q, rfl, rfl, rfl, rfl, ?_⟩
  · rintro acc M ⟨a, b, e, rfl, rfl, h, _⟩
    have hb : b = [] := by simpa using e.symm
    subst hb
    rw [List.append_nil] at h
    subst h
    exact ⟨hc _, k⟩
  · rintro d r acc M N hN ⟨a, b, e, rfl, rfl, h, hz⟩
    cases b with
    | nil => cases e
    | cons c b =>
      cases e
      refine ⟨hc _, ?_⟩
      simp only [dSeq, dNext, dRet, dRetN, dDrop, dSet, dIfS, dBrk, dCnt, dPar, dAug, dSetIx, dFor, dEsc, dChain, dNever, iEn, iEnS, iEnSK, iZp, dUnp, dVar, dC, dOp, dSl, dSlC, dPart, dNo, dTup, dLst, dLstC, dIf, dNot, dAnd, dOr, rNegD, dCall, dM, dM0, dApp, dFrz, dFz, dLc, dFn, dFn0, dFnK, aCons, aNil,
    qTru, qNot, qAnd, qOr, qYes, iLst, iTp, iStr', iR1, iR2, Tgt.d, setAll, wipeG, rAddD, rSubD, rMulD, rModD, rFdivD, rPowD, rOrdD, rIAddD, rIsN', rIxD, rSlD, rLen, rAbs, rMax2, rMin2, rInt1, rOrd, rListOf, rListOfC, rTupleOf, rIsiD, rAllD, rAnyD, rSumD, rHex, mLower, mUpper, mRfind, mIndex,
    mSplit, mPart, mJoin, mStarts, mEnds, startG, endG, endN, endW, eqS_iff, eqI_iff, eqB_iff, eqL_iff, lsOwn_ls, lsOf_ls, lsOf_rl, sqOf_ls, sqOf_rl, sqOf_tp, tpOf_tp, truD_ls, truD_rl, truD_tp, truD_bl, truD_int, truD_non, cPure, cNew, cBagA, sPure, isNon, flatD, tyD,
    cut_from1, cut_init, atI_0, atI_1, atI_2, atI_last, List.map_cons, List.map_nil, List.cons_append, List.nil_append, List.replicate, List.getElem?_cons_zero, List.getElem?_cons_succ, List.getElem?_nil, List.set_cons_zero, List.set_cons_succ, Option.some.injEq, exists_eq_left', exists_eq_left, Option.some_or, Option.none_or, Option.or_some, List.length_cons, List.length_nil, List.length_map, Nat.sub_zero, Nat.reduceSub, Nat.reduceAdd, Nat.reduceLeDiff, List.isEmpty_cons, List.isEmpty_nil, true_and, and_true, if_true, if_false, reduceIte, Bool.not_true, Bool.not_false, Bool.false_eq_true, reduceCtorEq, List.forall_mem_cons, List.forall_mem_nil, implies_true, List.mem_singleton, forall_eq, decide_eq_true_eq, Bool.not_eq_true', decide_eq_false_iff_not, okM0_iff, List.take_zero, gr_str_iff, gr_int_iff, gr_bl_iff, gr_non_iff, gr_lss_iff, gr_ls0_iff, sqOf_1, lsOf_1, lsOwn_1, ixN_30, ixN_31, ixN_32, setIx_iff, setIx_iff', D.cel.injEq, not_true_eq_false, not_false_eq_true]
      refine ⟨_, List.getElem?_set_self (by omega), ?_⟩
      show _ < _ ∧ N _ []
      refine ⟨by simp at hz ⊢; omega, hN _ _ ⟨a ++ [c], b, rfl, ?_, rfl, by simpa using h, by simp at hz ⊢; omega⟩⟩
      rw [List.map_append, List.map_append]
      show _ = _ ++ [D.bl (isHexB c)]
      rw [← mem_hex2]
      rfl
  · show 0 + q.length ≤ _
    omega
theorem sem_law_is_escape (ds : List D) (M : MM) (K0 : Kd) (R0 : Kx) (h : sp_law_is_escape ds M K0 R0) : rd_law_is_escape (endG M.length K0 R0) (startG 4 ds) M := by
  obtain ⟨t, i, rfl, rfl, ht, k⟩ := h
  unfold rd_law_is_escape
  refine seq_g fun N hN => ?_
  simp only [dSeq, dNext, dRet, dRetN, dDrop, dSet, dIfS, dBrk, dCnt, dPar, dAug, dSetIx, dFor, dEsc, dChain, dNever, iEn, iEnS, iEnSK, iZp, dUnp, dVar, dC, dOp, dSl, dSlC, dPart, dNo, dTup, dLst, dLstC, dIf, dNot, dAnd, dOr, rNegD, dCall, dM, dM0, dApp, dFrz, dFz, dLc, dFn, dFn0, dFnK, aCons, aNil,
    qTru, qNot, qAnd, qOr, qYes, iLst, iTp, iStr', iR1, iR2, Tgt.d, setAll, wipeG, rAddD, rSubD, rMulD, rModD, rFdivD, rPowD, rOrdD, rIAddD, rIsN', rIxD, rSlD, rLen, rAbs, rMax2, rMin2, rInt1, rOrd, rListOf, rListOfC, rTupleOf, rIsiD, rAllD, rAnyD, rSumD, rHex, mLower, mUpper, mRfind, mIndex,
    mSplit, mPart, mJoin, mStarts, mEnds, startG, endG, endN, endW, eqS_iff, eqI_iff, eqB_iff, eqL_iff, lsOwn_ls, lsOf_ls, lsOf_rl, sqOf_ls, sqOf_rl, sqOf_tp, tpOf_tp, truD_ls, truD_rl, truD_tp, truD_bl, truD_int, truD_non, cPure, cNew, cBagA, sPure, isNon, flatD, tyD,
    cut_from1, cut_init, atI_0, atI_1, atI_2, atI_last, List.map_cons, List.map_nil, List.cons_append, List.nil_append, List.replicate, List.getElem?_cons_zero, List.getElem?_cons_succ, List.getElem?_nil, List.set_cons_zero, List.set_cons_succ, Option.some.injEq, exists_eq_left', exists_eq_left, Option.some_or, Option.none_or, Option.or_some, List.length_cons, List.length_nil, List.length_map, Nat.sub_zero, Nat.reduceSub, Nat.reduceAdd, Nat.reduceLeDiff, List.isEmpty_cons, List.isEmpty_nil, true_and, and_true, if_true, if_false, reduceIte, Bool.not_true, Bool.not_false, Bool.false_eq_true, reduceCtorEq, List.forall_mem_cons, List.forall_mem_nil, implies_true, List.mem_singleton, forall_eq, decide_eq_true_eq, Bool.not_eq_true', decide_eq_false_iff_not, okM0_iff, List.take_zero, gr_str_iff, gr_int_iff, gr_bl_iff, gr_non_iff, gr_lss_iff, gr_ls0_iff, sqOf_1, lsOf_1, lsOwn_1, ixN_30, ixN_31, ixN_32, setIx_iff, setIx_iff', D.cel.injEq, not_true_eq_false, not_false_eq_true]
  have e3 : cut t (some ((i : Int) + 1)) (some ((i : Int) + 3)) = (t.drop (i + 1)).take 2 := cut_add t i 1 3
  have e1 : cut t (some (i : Int)) (some ((i : Int) + 1)) = (t.drop i).take 1 := by
    have := cut_add t i 0 1
    simpa using this
  refine ⟨by omega, ?_⟩
  rw [hN]
  refine seq_g fun N hN => ?_
  simp only [dSeq, dNext, dRet, dRetN, dDrop, dSet, dIfS, dBrk, dCnt, dPar, dAug, dSetIx, dFor, dEsc, dChain, dNever, iEn, iEnS, iEnSK, iZp, dUnp, dVar, dC, dOp, dSl, dSlC, dPart, dNo, dTup, dLst, dLstC, dIf, dNot, dAnd, dOr, rNegD, dCall, dM, dM0, dApp, dFrz, dFz, dLc, dFn, dFn0, dFnK, aCons, aNil,
    qTru, qNot, qAnd, qOr, qYes, iLst, iTp, iStr', iR1, iR2, Tgt.d, setAll, wipeG, rAddD, rSubD, rMulD, rModD, rFdivD, rPowD, rOrdD, rIAddD, rIsN', rIxD, rSlD, rLen, rAbs, rMax2, rMin2, rInt1, rOrd, rListOf, rListOfC, rTupleOf, rIsiD, rAllD, rAnyD, rSumD, rHex, mLower, mUpper, mRfind, mIndex,
    mSplit, mPart, mJoin, mStarts, mEnds, startG, endG, endN, endW, eqS_iff, eqI_iff, eqB_iff, eqL_iff, lsOwn_ls, lsOf_ls, lsOf_rl, sqOf_ls, sqOf_rl, sqOf_tp, tpOf_tp, truD_ls, truD_rl, truD_tp, truD_bl, truD_int, truD_non, cPure, cNew, cBagA, sPure, isNon, flatD, tyD,
    cut_from1, cut_init, atI_0, atI_1, atI_2, atI_last, List.map_cons, List.map_nil, List.cons_append, List.nil_append, List.replicate, List.getElem?_cons_zero, List.getElem?_cons_succ, List.getElem?_nil, List.set_cons_zero, List.set_cons_succ, Option.some.injEq, exists_eq_left', exists_eq_left, Option.some_or, Option.none_or, Option.or_some, List.length_cons, List.length_nil, List.length_map, Nat.sub_zero, Nat.reduceSub, Nat.reduceAdd, Nat.reduceLeDiff, List.isEmpty_cons, List.isEmpty_nil, true_and, and_true, if_true, if_false, reduceIte, Bool.not_true, Bool.not_false, Bool.false_eq_true, reduceCtorEq, List.forall_mem_cons, List.forall_mem_nil, implies_true, List.mem_singleton, forall_eq, decide_eq_true_eq, Bool.not_eq_true', decide_eq_false_iff_not, okM0_iff, List.take_zero, gr_str_iff, gr_int_iff, gr_bl_iff, gr_non_iff, gr_lss_iff, gr_ls0_iff, sqOf_1, lsOf_1, lsOwn_1, ixN_30, ixN_31, ixN_32, setIx_iff, setIx_iff', D.cel.injEq, not_true_eq_false, not_false_eq_true, e1, e3]
  have hq : ((t.drop (i + 1)).take 2).length ≤ 2 := by rw [List.length_take]; omega
  unfold escAt at k
  refine ⟨by omega, ?_⟩
  by_cases c1 : (t.drop i).take 1 = [94]
  · rw [if_neg (fun z => z c1)]
    rw [beq_iff_eq.mpr c1] at k
    refine ⟨by omega, ?_⟩
    by_cases c2 : ((t.drop (i + 1)).take 2).length = 2
    · rw [if_neg (by omega), hN]
      rw [beq_iff_eq.mpr c2] at k
      simp only [dSeq, dNext, dRet, dRetN, dDrop, dSet, dIfS, dBrk, dCnt, dPar, dAug, dSetIx, dFor, dEsc, dChain, dNever, iEn, iEnS, iEnSK, iZp, dUnp, dVar, dC, dOp, dSl, dSlC, dPart, dNo, dTup, dLst, dLstC, dIf, dNot, dAnd, dOr, rNegD, dCall, dM, dM0, dApp, dFrz, dFz, dLc, dFn, dFn0, dFnK, aCons, aNil,
    qTru, qNot, qAnd, qOr, qYes, iLst, iTp, iStr', iR1, iR2, Tgt.d, setAll, wipeG, rAddD, rSubD, rMulD, rModD, rFdivD, rPowD, rOrdD, rIAddD, rIsN', rIxD, rSlD, rLen, rAbs, rMax2, rMin2, rInt1, rOrd, rListOf, rListOfC, rTupleOf, rIsiD, rAllD, rAnyD, rSumD, rHex, mLower, mUpper, mRfind, mIndex,
    mSplit, mPart, mJoin, mStarts, mEnds, startG, endG, endN, endW, eqS_iff, eqI_iff, eqB_iff, eqL_iff, lsOwn_ls, lsOf_ls, lsOf_rl, sqOf_ls, sqOf_rl, sqOf_tp, tpOf_tp, truD_ls, truD_rl, truD_tp, truD_bl, truD_int, truD_non, cPure, cNew, cBagA, sPure, isNon, flatD, tyD,
    cut_from1, cut_init, atI_0, atI_1, atI_2, atI_last, List.map_cons, List.map_nil, List.cons_append, List.nil_append, List.replicate, List.getElem?_cons_zero, List.getElem?_cons_succ, List.getElem?_nil, List.set_cons_zero, List.set_cons_succ, Option.some.injEq, exists_eq_left', exists_eq_left, Option.some_or, Option.none_or, Option.or_some, List.length_cons, List.length_nil, List.length_map, Nat.sub_zero, Nat.reduceSub, Nat.reduceAdd, Nat.reduceLeDiff, List.isEmpty_cons, List.isEmpty_nil, true_and, and_true, if_true, if_false, reduceIte, Bool.not_true, Bool.not_false, Bool.false_eq_true, reduceCtorEq, List.forall_mem_cons, List.forall_mem_nil, implies_true, List.mem_singleton, forall_eq, decide_eq_true_eq, Bool.not_eq_true', decide_eq_false_iff_not, okM0_iff, List.take_zero, gr_str_iff, gr_int_iff, gr_bl_iff, gr_non_iff, gr_lss_iff, gr_ls0_iff, sqOf_1, lsOf_1, lsOwn_1, ixN_30, ixN_31, ixN_32, setIx_iff, setIx_iff', D.cel.injEq, not_true_eq_false, not_false_eq_true]
      refine ⟨_, rfl, comp_hex2 (fun _ => trivial) rfl _ (by omega) ?_⟩
      simp only [dSeq, dNext, dRet, dRetN, dDrop, dSet, dIfS, dBrk, dCnt, dPar, dAug, dSetIx, dFor, dEsc, dChain, dNever, iEn, iEnS, iEnSK, iZp, dUnp, dVar, dC, dOp, dSl, dSlC, dPart, dNo, dTup, dLst, dLstC, dIf, dNot, dAnd, dOr, rNegD, dCall, dM, dM0, dApp, dFrz, dFz, dLc, dFn, dFn0, dFnK, aCons, aNil,
    qTru, qNot, qAnd, qOr, qYes, iLst, iTp, iStr', iR1, iR2, Tgt.d, setAll, wipeG, rAddD, rSubD, rMulD, rModD, rFdivD, rPowD, rOrdD, rIAddD, rIsN', rIxD, rSlD, rLen, rAbs, rMax2, rMin2, rInt1, rOrd, rListOf, rListOfC, rTupleOf, rIsiD, rAllD, rAnyD, rSumD, rHex, mLower, mUpper, mRfind, mIndex,
    mSplit, mPart, mJoin, mStarts, mEnds, startG, endG, endN, endW, eqS_iff, eqI_iff, eqB_iff, eqL_iff, lsOwn_ls, lsOf_ls, lsOf_rl, sqOf_ls, sqOf_rl, sqOf_tp, tpOf_tp, truD_ls, truD_rl, truD_tp, truD_bl, truD_int, truD_non, cPure, cNew, cBagA, sPure, isNon, flatD, tyD,
    cut_from1, cut_init, atI_0, atI_1, atI_2, atI_last, List.map_cons, List.map_nil, List.cons_append, List.nil_append, List.replicate, List.getElem?_cons_zero, List.getElem?_cons_succ, List.getElem?_nil, List.set_cons_zero, List.set_cons_succ, Option.some.injEq, exists_eq_left', exists_eq_left, Option.some_or, Option.none_or, Option.or_some, List.length_cons, List.length_nil, List.length_map, Nat.sub_zero, Nat.reduceSub, Nat.reduceAdd, Nat.reduceLeDiff, List.isEmpty_cons, List.isEmpty_nil, true_and, and_true, if_true, if_false, reduceIte, Bool.not_true, Bool.not_false, Bool.false_eq_true, reduceCtorEq, List.forall_mem_cons, List.forall_mem_nil, implies_true, List.mem_singleton, forall_eq, decide_eq_true_eq, Bool.not_eq_true', decide_eq_false_iff_not, okM0_iff, List.take_zero, gr_str_iff, gr_int_iff, gr_bl_iff, gr_non_iff, gr_lss_iff, gr_ls0_iff, sqOf_1, lsOf_1, lsOwn_1, ixN_30, ixN_31, ixN_32, setIx_iff, setIx_iff', D.cel.injEq, not_true_eq_false, not_false_eq_true]
      refine ⟨_, rfl, ?_⟩
      rw [List.all_map]
      exact k
    · rw [if_pos (by omega)]
      rw [beq_eq_false_iff_ne.mpr c2] at k
      exact k
  · rw [if_pos c1]
    rw [beq_eq_false_iff_ne.mpr c1] at k
    exact k


abbrev digS : Tx := [48, 49, 50, 51, 52, 53, 54, 55, 56, 57, 97, 98, 99, 100, 101, 102]
theorem dig_ix : ∀ c : _root_.Fin 128, isHexB c.val = true → fiC (lowC c.val) digS = some (Hx.hv c.val) := by decide +kernel
theorem hexB_lt {c : Nat} (h : isHexB c = true) : c < 128 := by
  unfold isHexB at h
  simp only [decide_eq_true_eq, Bool.or_eq_true] at h
  omega
def sp_law_octet : DSpec := fun ds M K _ => ∃ (t : Tx) (i : Nat), ds = [.str t, .int i] ∧ M = [] ∧ t.length ≤ 100000 ∧ escAt t i = true ∧ K (.int (escVal t i : Nat)) []
def rd_law_octet : DS :=
  (dSeq (dPar 2 3 (aCons (dC (.str [48, 49, 50, 51, 52, 53, 54, 55, 56, 57, 97, 98, 99, 100, 101, 102])) (aCons (dM0 mLower (dSl (dVar 0) (dPart (dOp rAddD (dVar 1) (dC (.int 1)))) (dPart (dOp rAddD (dVar 1) (dC (.int 3)))))) aNil)))
    (dRet (dOp rAddD (dOp rMulD (dC (.int 16)) (dM mIndex (dVar 2) (aCons (dOp rIxD (dVar 3) (dC (.int 0))) aNil))) (dM mIndex (dVar 2) (aCons (dOp rIxD (dVar 3) (dC (.int 1))) aNil)))))
theorem sem_law_octet (ds : List D) (M : MM) (K0 : Kd) (R0 : Kx) (h : sp_law_octet ds M K0 R0) : rd_law_octet (endG M.length K0 R0) (startG 4 ds) M := by
  obtain ⟨t, i, rfl, rfl, ht, he, k⟩ := h
  obtain ⟨h1, h2⟩ := escAt_parts he
  have e3 : cut t (some ((i : Int) + 1)) (some ((i : Int) + 3)) = (t.drop (i + 1)).take 2 := cut_add t i 1 3
  unfold escVal at k
  unfold rd_law_octet
  refine seq_g fun N hN => ?_
  simp only [dSeq, dNext, dRet, dRetN, dDrop, dSet, dIfS, dBrk, dCnt, dPar, dAug, dSetIx, dFor, dEsc, dChain, dNever, iEn, iEnS, iEnSK, iZp, dUnp, dVar, dC, dOp, dSl, dSlC, dPart, dNo, dTup, dLst, dLstC, dIf, dNot, dAnd, dOr, rNegD, dCall, dM, dM0, dApp, dFrz, dFz, dLc, dFn, dFn0, dFnK, aCons, aNil,
    qTru, qNot, qAnd, qOr, qYes, iLst, iTp, iStr', iR1, iR2, Tgt.d, setAll, wipeG, rAddD, rSubD, rMulD, rModD, rFdivD, rPowD, rOrdD, rIAddD, rIsN', rIxD, rSlD, rLen, rAbs, rMax2, rMin2, rInt1, rOrd, rListOf, rListOfC, rTupleOf, rIsiD, rAllD, rAnyD, rSumD, rHex, mLower, mUpper, mRfind, mIndex,
    mSplit, mPart, mJoin, mStarts, mEnds, startG, endG, endN, endW, eqS_iff, eqI_iff, eqB_iff, eqL_iff, lsOwn_ls, lsOf_ls, lsOf_rl, sqOf_ls, sqOf_rl, sqOf_tp, tpOf_tp, truD_ls, truD_rl, truD_tp, truD_bl, truD_int, truD_non, cPure, cNew, cBagA, sPure, isNon, flatD, tyD,
    cut_from1, cut_init, atI_0, atI_1, atI_2, atI_last, List.map_cons, List.map_nil, List.cons_append, List.nil_append, List.replicate, List.getElem?_cons_zero, List.getElem?_cons_succ, List.getElem?_nil, List.set_cons_zero, List.set_cons_succ, Option.some.injEq, exists_eq_left', exists_eq_left, Option.some_or, Option.none_or, Option.or_some, List.length_cons, List.length_nil, List.length_map, Nat.sub_zero, Nat.reduceSub, Nat.reduceAdd, Nat.reduceLeDiff, List.isEmpty_cons, List.isEmpty_nil, true_and, and_true, if_true, if_false, reduceIte, Bool.not_true, Bool.not_false, Bool.false_eq_true, reduceCtorEq, List.forall_mem_cons, List.forall_mem_nil, implies_true, List.mem_singleton, forall_eq, decide_eq_true_eq, Bool.not_eq_true', decide_eq_false_iff_not, okM0_iff, List.take_zero, gr_str_iff, gr_int_iff, gr_bl_iff, gr_non_iff, gr_lss_iff, gr_ls0_iff, sqOf_1, lsOf_1, lsOwn_1, ixN_30, ixN_31, ixN_32, setIx_iff, setIx_iff', D.cel.injEq, not_true_eq_false, not_false_eq_true, e3]
  obtain ⟨a, b, hab⟩ : ∃ a b, (t.drop (i + 1)).take 2 = [a, b] := by
    match (t.drop (i + 1)).take 2, h1 with
    | [a, b], _ => exact ⟨a, b, rfl⟩
  rw [hab] at h2 k ⊢
  have ha := h2 a List.mem_cons_self
  have hb := h2 b (List.mem_cons_of_mem _ List.mem_cons_self)
  refine ⟨by omega, by show 2 ≤ _; decide, ?_⟩
  rw [hN]
  simp only [dSeq, dNext, dRet, dRetN, dDrop, dSet, dIfS, dBrk, dCnt, dPar, dAug, dSetIx, dFor, dEsc, dChain, dNever, iEn, iEnS, iEnSK, iZp, dUnp, dVar, dC, dOp, dSl, dSlC, dPart, dNo, dTup, dLst, dLstC, dIf, dNot, dAnd, dOr, rNegD, dCall, dM, dM0, dApp, dFrz, dFz, dLc, dFn, dFn0, dFnK, aCons, aNil,
    qTru, qNot, qAnd, qOr, qYes, iLst, iTp, iStr', iR1, iR2, Tgt.d, setAll, wipeG, rAddD, rSubD, rMulD, rModD, rFdivD, rPowD, rOrdD, rIAddD, rIsN', rIxD, rSlD, rLen, rAbs, rMax2, rMin2, rInt1, rOrd, rListOf, rListOfC, rTupleOf, rIsiD, rAllD, rAnyD, rSumD, rHex, mLower, mUpper, mRfind, mIndex,
    mSplit, mPart, mJoin, mStarts, mEnds, startG, endG, endN, endW, eqS_iff, eqI_iff, eqB_iff, eqL_iff, lsOwn_ls, lsOf_ls, lsOf_rl, sqOf_ls, sqOf_rl, sqOf_tp, tpOf_tp, truD_ls, truD_rl, truD_tp, truD_bl, truD_int, truD_non, cPure, cNew, cBagA, sPure, isNon, flatD, tyD,
    cut_from1, cut_init, atI_0, atI_1, atI_2, atI_last, List.map_cons, List.map_nil, List.cons_append, List.nil_append, List.replicate, List.getElem?_cons_zero, List.getElem?_cons_succ, List.getElem?_nil, List.set_cons_zero, List.set_cons_succ, Option.some.injEq, exists_eq_left', exists_eq_left, Option.some_or, Option.none_or, Option.or_some, List.length_cons, List.length_nil, List.length_map, Nat.sub_zero, Nat.reduceSub, Nat.reduceAdd, Nat.reduceLeDiff, List.isEmpty_cons, List.isEmpty_nil, true_and, and_true, if_true, if_false, reduceIte, Bool.not_true, Bool.not_false, Bool.false_eq_true, reduceCtorEq, List.forall_mem_cons, List.forall_mem_nil, implies_true, List.mem_singleton, forall_eq, decide_eq_true_eq, Bool.not_eq_true', decide_eq_false_iff_not, okM0_iff, List.take_zero, gr_str_iff, gr_int_iff, gr_bl_iff, gr_non_iff, gr_lss_iff, gr_ls0_iff, sqOf_1, lsOf_1, lsOwn_1, ixN_30, ixN_31, ixN_32, setIx_iff, setIx_iff', D.cel.injEq, not_true_eq_false, not_false_eq_true]
  refine ⟨Hx.hv a, dig_ix ⟨a, hexB_lt ha⟩ ha, .inl (by decide), Hx.hv b, dig_ix ⟨b, hexB_lt hb⟩ hb, ?_⟩
  have e : (16 * ((Hx.hv a : Nat) : Int) + ((Hx.hv b : Nat) : Int)) = ((Hx.hexNum [a, b] : Nat) : Int) := by
    show _ = (((0 * 16 + Hx.hv a) * 16 + Hx.hv b : Nat) : Int)
    omega
  rw [e]
  exact k
end L3

namespace L3
open PySem PySem.Spec PyProof.Rows L2 Evl
open Classical
local macro_rules | `(tactic| simp!) => `(tactic| try simp only [↓e_while, ↓e_var, ↓e_c, ↓e_op, ↓e_nil, ↓e_cons, ↓e_tup, ↓e_lst, ↓e_lstC, ↓e_tru, ↓e_qnot, ↓e_qand, ↓e_qor, ↓e_qyes, ↓e_if, ↓e_not, ↓e_and, ↓e_or, ↓e_neg, ↓e_chain, ↓e_call, ↓e_no, ↓e_part, ↓e_sl, ↓e_slC, ↓e_fn, ↓e_fn0, ↓e_fnK, ↓e_m0, ↓e_m, ↓e_frz, ↓e_fz, ↓e_app, ↓e_lc, ↓e_esc, ↓e_next, ↓e_seq, ↓e_ret, ↓e_retN, ↓e_drop, ↓e_set, ↓e_ifS, ↓e_brk, ↓e_cnt, ↓e_par, ↓e_aug, ↓e_setIx, ↓e_for, ↓e_unp, ↓e_nm, ↓e_tgt, ↓e_iLst, ↓e_iTp, ↓e_iStr, ↓e_iR1, ↓isR1_s, ↓e_iR2, ↓isR2_s, ↓e_iEn, ↓isEn_s, ↓e_iEnS, ↓isEnS_s, ↓r_addI, ↓r_addS, ↓r_addT, ↓r_addL, ↓r_iaddI, ↓r_iaddS, ↓r_sub, ↓r_mulI, ↓r_mulL, ↓r_mod, ↓r_fdiv, ↓r_pow, ↓r_ordI, ↓r_ordS, ↓r_is, ↓r_inS, ↓r_ixS, ↓r_ixL, ↓r_ixR, ↓r_ixT, ↓r_ixC, ↓r_slS, ↓r_slT, ↓r_slL, ↓r_slR, ↓r_lenS, ↓r_lenL, ↓r_lenT, ↓r_lenR, ↓r_abs, ↓r_max, ↓r_min, ↓r_intI, ↓r_intB, ↓r_ord, ↓r_listL, ↓r_listT, ↓r_tupL, ↓r_tupT, ↓r_split, ↓r_part, ↓r_join, ↓r_joinC, ↓r_starts, ↓r_ends, ↓r_lower, ↓r_upper, ↓r_rfind, ↓r_index, ↓r_all, ↓r_any, ↓r_sum, ↓r_hex, ↓r_isi, ↓r_eqS, ↓r_neS, ↓r_eqI, ↓r_neI, ↓r_eqB, ↓r_neB, ↓r_eqL, ↓r_neL, ↓r_eqL0, ↓r_neL0, ↓t_s, ↓r_eq00, ↓r_ne00, ↓gets_s, ↓gets_n, ↓onS_s, ↓onI_s, ↓onC_s, ↓onB_s, ↓onL_s, ↓thenP_t, ↓ifI_t, ↓ifI_f, ifI_t, ifI_f, gets_s, gets_n, onS_s, onI_s, onC_s, onB_s, onL_s, thenP_t, gets_if, endG_rt, endG_rz, endG_nx, endN_rt, has_ls1, has_ls2, startG, wipeG, setAll, cut_from1, cut_init, atI_0, atI_1, atI_2, atI_last, List.map_cons, List.map_nil, List.cons_append, List.nil_append, List.append_nil, List.replicate, List.getElem?_cons_zero, List.getElem?_cons_succ, List.getElem?_nil, List.set_cons_zero, List.set_cons_succ, List.length_cons, List.length_nil, List.length_map, List.length_append, Nat.zero_add, Nat.sub_zero, Nat.reduceSub, Nat.reduceAdd, Nat.reduceLeDiff, List.isEmpty_cons, List.isEmpty_nil, true_and, and_true, if_true, if_false, reduceIte, Bool.not_true, Bool.not_false, Bool.not_not, Bool.false_eq_true, reduceCtorEq, List.forall_mem_cons, List.forall_mem_nil, implies_true, List.mem_singleton, decide_eq_true_eq, Bool.not_eq_true', decide_eq_false_iff_not, okM0_iff, okM1c, List.take_zero, List.take_succ_cons, gr_str_iff, gr_int_iff, gr_bl_iff, gr_non_iff, gr_lss_iff, gr_ls0_iff, lsOf_ls, lsOf_rl, lsOf_c, sqOf_ls, sqOf_rl, sqOf_tp, sqOf_c, lsOwn_ls, lsOwn_c, tpOf_tp, truD_ls, truD_rl, truD_tp, truD_bl, truD_int, truD_non, isNon, tyD, get_snoc, set_snoc, not_true_eq_false, not_false_eq_true, Option.some.injEq, Int.reduceLT, Int.reduceLE, Int.reduceNeg, Int.reducePow, Int.reduceToNat, and_self, atI_nat, inS_one, ↓e_tab, ↓r_isBl, ↓r_isiO, ↓e_prop, ↓e_mk, ↓e_mkL, ↓e_meth, ↓e_cval, ↓e_cm, ↓e_setF, ↓e_zp, ↓e_enSK, ↓e_par3, ↓r_find, ↓e_asg3, ↓e_dispC, ↓e_dtIx, ↓onDt_s, ↓e_get2, ↓e_tabG, ↓tabGI_s, ↓tabGI_n, ↓r_lstrip, ↓e_unpL])
local macro_rules | `(tactic| simp! [$xs,*]) => `(tactic| try simp only [↓e_while, ↓e_var, ↓e_c, ↓e_op, ↓e_nil, ↓e_cons, ↓e_tup, ↓e_lst, ↓e_lstC, ↓e_tru, ↓e_qnot, ↓e_qand, ↓e_qor, ↓e_qyes, ↓e_if, ↓e_not, ↓e_and, ↓e_or, ↓e_neg, ↓e_chain, ↓e_call, ↓e_no, ↓e_part, ↓e_sl, ↓e_slC, ↓e_fn, ↓e_fn0, ↓e_fnK, ↓e_m0, ↓e_m, ↓e_frz, ↓e_fz, ↓e_app, ↓e_lc, ↓e_esc, ↓e_next, ↓e_seq, ↓e_ret, ↓e_retN, ↓e_drop, ↓e_set, ↓e_ifS, ↓e_brk, ↓e_cnt, ↓e_par, ↓e_aug, ↓e_setIx, ↓e_for, ↓e_unp, ↓e_nm, ↓e_tgt, ↓e_iLst, ↓e_iTp, ↓e_iStr, ↓e_iR1, ↓isR1_s, ↓e_iR2, ↓isR2_s, ↓e_iEn, ↓isEn_s, ↓e_iEnS, ↓isEnS_s, ↓r_addI, ↓r_addS, ↓r_addT, ↓r_addL, ↓r_iaddI, ↓r_iaddS, ↓r_sub, ↓r_mulI, ↓r_mulL, ↓r_mod, ↓r_fdiv, ↓r_pow, ↓r_ordI, ↓r_ordS, ↓r_is, ↓r_inS, ↓r_ixS, ↓r_ixL, ↓r_ixR, ↓r_ixT, ↓r_ixC, ↓r_slS, ↓r_slT, ↓r_slL, ↓r_slR, ↓r_lenS, ↓r_lenL, ↓r_lenT, ↓r_lenR, ↓r_abs, ↓r_max, ↓r_min, ↓r_intI, ↓r_intB, ↓r_ord, ↓r_listL, ↓r_listT, ↓r_tupL, ↓r_tupT, ↓r_split, ↓r_part, ↓r_join, ↓r_joinC, ↓r_starts, ↓r_ends, ↓r_lower, ↓r_upper, ↓r_rfind, ↓r_index, ↓r_all, ↓r_any, ↓r_sum, ↓r_hex, ↓r_isi, ↓r_eqS, ↓r_neS, ↓r_eqI, ↓r_neI, ↓r_eqB, ↓r_neB, ↓r_eqL, ↓r_neL, ↓r_eqL0, ↓r_neL0, ↓t_s, ↓r_eq00, ↓r_ne00, ↓gets_s, ↓gets_n, ↓onS_s, ↓onI_s, ↓onC_s, ↓onB_s, ↓onL_s, ↓thenP_t, ↓ifI_t, ↓ifI_f, ifI_t, ifI_f, gets_s, gets_n, onS_s, onI_s, onC_s, onB_s, onL_s, thenP_t, gets_if, endG_rt, endG_rz, endG_nx, endN_rt, has_ls1, has_ls2, startG, wipeG, setAll, cut_from1, cut_init, atI_0, atI_1, atI_2, atI_last, List.map_cons, List.map_nil, List.cons_append, List.nil_append, List.append_nil, List.replicate, List.getElem?_cons_zero, List.getElem?_cons_succ, List.getElem?_nil, List.set_cons_zero, List.set_cons_succ, List.length_cons, List.length_nil, List.length_map, List.length_append, Nat.zero_add, Nat.sub_zero, Nat.reduceSub, Nat.reduceAdd, Nat.reduceLeDiff, List.isEmpty_cons, List.isEmpty_nil, true_and, and_true, if_true, if_false, reduceIte, Bool.not_true, Bool.not_false, Bool.not_not, Bool.false_eq_true, reduceCtorEq, List.forall_mem_cons, List.forall_mem_nil, implies_true, List.mem_singleton, decide_eq_true_eq, Bool.not_eq_true', decide_eq_false_iff_not, okM0_iff, okM1c, List.take_zero, List.take_succ_cons, gr_str_iff, gr_int_iff, gr_bl_iff, gr_non_iff, gr_lss_iff, gr_ls0_iff, lsOf_ls, lsOf_rl, lsOf_c, sqOf_ls, sqOf_rl, sqOf_tp, sqOf_c, lsOwn_ls, lsOwn_c, tpOf_tp, truD_ls, truD_rl, truD_tp, truD_bl, truD_int, truD_non, isNon, tyD, get_snoc, set_snoc, not_true_eq_false, not_false_eq_true, Option.some.injEq, Int.reduceLT, Int.reduceLE, Int.reduceNeg, Int.reducePow, Int.reduceToNat, and_self, atI_nat, inS_one, ↓e_tab, ↓r_isBl, ↓r_isiO, ↓e_prop, ↓e_mk, ↓e_mkL, ↓e_meth, ↓e_cval, ↓e_cm, ↓e_setF, ↓e_zp, ↓e_enSK, ↓e_par3, ↓r_find, ↓e_asg3, ↓e_dispC, ↓e_dtIx, ↓onDt_s, ↓e_get2, ↓e_tabG, ↓tabGI_s, ↓tabGI_n, ↓r_lstrip, ↓e_unpL, $xs,*])
local macro_rules | `(tactic| dsimp!) => `(tactic| simp only [List.forall_mem_cons, List.forall_mem_nil, List.mem_singleton, forall_eq, implies_true, and_true, true_and, gr_str_iff, gr_int_iff, gr_bl_iff, gr_non_iff, gr_lss_iff, gr_ls0_iff, gr_opt_iff, gr_ints_iff, gr_rl_iff, gr_tpU_iff, gr_obU_iff, gr_cl_iff, gr_tp0_iff, gr_tpc_iff, gr_lsc_iff])
/-! ### octets written, words, items, queries -/
def escC (stays : Tx) (o : Nat) : Tx := if o ∈ stays ∧ o ≠ 94 then [o] else 94 :: hexT o
def sp_p_is_octet : DSpec := fun ds M K _ => ∃ o : Nat, ds = [.int o] ∧ M = [] ∧ o < 256 ∧ K (.bl true) []
def rd_p_is_octet : DS :=
  (dRet (dAnd (dCall rIsiD (aCons (dVar 0) (aCons (dC (.ty "int")) aNil))) (dAnd (dNot (dCall rIsiD (aCons (dVar 0) (aCons (dC (.ty "bool")) aNil)))) (dChain rLeD rLeD (dC (.int 0)) (dVar 0) (dC (.int 255))))))
theorem sem_p_is_octet (ds : List D) (M : MM) (K0 : Kd) (R0 : Kx) (h : sp_p_is_octet ds M K0 R0) : rd_p_is_octet (endG M.length K0 R0) (startG 1 ds) M := by
  obtain ⟨o, rfl, rfl, ho, k⟩ := h
  unfold rd_p_is_octet
  simp!
  refine gets_i (a := true) rfl ?_
  simp!
  refine gets_i (a := false) rfl ?_
  simp!
  rw [ifI_p (by omega)]
  simp!
  rw [decide_eq_true (by omega)]
  exact k
def sp_p_sign_or_escape : DSpec := fun ds M K _ => ∃ (o : Nat) (st : Tx), ds = [.int o, .str st] ∧ M = [] ∧ o < 256 ∧ st.length ≤ 1000 ∧ K (.str (escC st o)) []
def rd_p_sign_or_escape : DS :=
  (dSeq (dSet 2 (dLc (iStr' (dVar 1)) (Tgt.nm 3) (qAnd (qTru (dOp (rEqD' false) (dCall rOrd (aCons (dVar 3) aNil)) (dVar 0))) (qTru (dOp (rEqD' true) (dVar 3) (dC (.str [94]))))) (dVar 3) [3]))
    (dRet (dIf (qTru (dOp (rEqD' true) (dVar 2) (dLst aNil))) (dOp rIxD (dVar 2) (dC (.int 0))) (dFn (cPure sp_p_escape_of) [] (aCons (dVar 0) aNil)))))
theorem sem_p_sign_or_escape (ds : List D) (M : MM) (K0 : Kd) (R0 : Kx) (h : sp_p_sign_or_escape ds M K0 R0) : rd_p_sign_or_escape (endG M.length K0 R0) (startG 4 ds) M := by
  obtain ⟨o, st, rfl, rfl, ho, hl, k⟩ := h
  unfold rd_p_sign_or_escape
  refine seq_g fun N hN => ?_
  simp!
  refine comp_fm (enc := fun c => .str [c]) (p := fun c => decide (c = o ∧ c ≠ 94)) (g := fun c => .str [c]) st (by first | trivial | rfl) (by omega) (fun c hc Y Z h1 h2 => ?_) ?_
  · simp!
    refine ifI_i (fun z => ?_) fun z => ?_
    · simp!
      refine ifI_i (fun y => ?_) fun y => ?_
      · simp!
        exact h1 (decide_eq_true ⟨by omega, by simpa using y⟩)
      · simp!
        exact h2 (decide_eq_false fun q => q.2 (by simpa using y))
    · simp!
      exact h2 (decide_eq_false fun q => z (by omega))
  · rw [hN]
    clear hN
    have e0 : ∀ l : Tx, (l.map fun c => D.str [c]) = (l.map fun c => [c]).map D.str := fun l => by rw [List.map_map]; rfl
    cases e : st.filter fun c => decide (c = o ∧ c ≠ 94) with
    | nil =>
      have hno : ¬ (o ∈ st ∧ o ≠ 94) := fun ⟨h1, h2⟩ => by
        have : o ∈ st.filter fun c => decide (c = o ∧ c ≠ 94) := List.mem_filter.mpr ⟨h1, by simpa using h2⟩
        rw [e] at this
        cases this
      unfold escC at k
      rw [if_neg hno] at k
      simp!
      refine ⟨(by dsimp!), o, rfl, rfl, ho, rfl, ?_⟩
      simp!
      exact k
    | cons c r =>
      have hc : c ∈ st.filter fun c => decide (c = o ∧ c ≠ 94) := by rw [e]; exact List.mem_cons_self
      obtain ⟨h1, h2⟩ := List.mem_filter.mp hc
      have h2 : c = o ∧ c ≠ 94 := of_decide_eq_true h2
      obtain ⟨rfl, h3⟩ := h2
      unfold escC at k
      rw [if_pos ⟨h1, h3⟩] at k
      rw [e0]
      simp!
      refine (eqL_iff (a := [c] :: r.map fun c => [c]) (b := [])).mpr ?_
      simp!
      exact k
def escs (st : Tx) (os : List Nat) : Tx := (os.map (escC st)).flatten
theorem escC_len (st : Tx) (o : Nat) : (escC st o).length ≤ 3 := by
  unfold escC
  split
  · exact Nat.le_of_ble_eq_true rfl
  · show 3 ≤ 3
    omega
theorem escs_sum (st : Tx) : ∀ os : List Nat, ((os.map (escC st)).map List.length).sum ≤ 3 * os.length
  | [] => Nat.zero_le _
  | o :: os => by
    have h1 := escC_len st o
    have h2 := escs_sum st os
    simp only [List.map_cons, List.sum_cons, List.length_cons]
    omega
theorem escs_len (st : Tx) (t : Tx) : (escs st t).length ≤ 3 * t.length := by
  have := escs_sum st t
  unfold escs
  rw [List.length_flatten]
  exact this
def sp_p_escaped : DSpec := fun ds M K _ => ∃ (os : List Nat) (keep : Tx), ds = [.ls (natsD os), .str keep] ∧ M = [] ∧ os.length ≤ 10000 ∧ keep.length ≤ 200 ∧ (∀ o ∈ os, o < 256) ∧ K (.str (escs (plainS ++ keep) os)) []
def lb0_p_escaped : DS :=
  (dIfS (qNot (qTru (dFn (cPure sp_p_is_octet) [] (aCons (dVar 3) aNil))))
    dNever
    dNext)
def rd_p_escaped : DS :=
  (dSeq (dFor (iEn (aCons (dVar 0) aNil)) (Tgt.tup [2, 3]) lb0_p_escaped)
    (dRet (dM mJoin (dC (.str [])) (aCons (dLc (iLst (dVar 0)) (Tgt.nm 3) qYes (dFn (cPure sp_p_sign_or_escape) [] (aCons (dVar 3) (aCons (dOp rAddD (dC (.str [45, 46, 48, 49, 50, 51, 52, 53, 54, 55, 56, 57, 65, 66, 67, 68, 69, 70, 71, 72, 73, 74, 75, 76, 77, 78, 79, 80, 81, 82, 83, 84, 85, 86, 87, 88, 89, 90, 95, 97, 98, 99, 100, 101, 102, 103, 104, 105, 106, 107, 108, 109, 110, 111, 112, 113, 114, 115, 116, 117, 118, 119, 120, 121, 122, 126])) (dVar 1)) aNil))) [3]) aNil))))
theorem sem_p_escaped (ds : List D) (M : MM) (K0 : Kd) (R0 : Kx) (h : sp_p_escaped ds M K0 R0) : rd_p_escaped (endG M.length K0 R0) (startG 4 ds) M := by
  obtain ⟨os, keep, rfl, rfl, hl, hk, ho, k⟩ := h
  unfold rd_p_escaped
  refine seq_g fun N hN => ?_
  simp!
  refine for_ind (P := fun l Γ M => (∀ d ∈ l, ∃ (i : Int) (o : Nat), o < 256 ∧ d = .tp [.int i, .int (o : Nat)]) ∧ M = [] ∧ ∃ o2 o3, Γ = [some (.ls (natsD os)), some (.str keep), o2, o3]) ?_ ?_ _ _ _ ⟨?_, rfl, none, none, rfl⟩
  · rintro Γ M ⟨_, rfl, o2, o3, rfl⟩
    refine ⟨trivial, ?_⟩
    show N _ _
    rw [hN]
    clear hN
    have hpl : plainS.length = 66 := rfl
    simp!
    refine comp_map (enc := fun o : Nat => D.int (o : Nat)) (g := fun o => .str (escC (plainS ++ keep) o)) os (by first | trivial | rfl) (by omega) (fun o hxm Y hY => ?_) ?_
    · simp!
      refine ⟨by omega, ?_⟩
      simp!
      refine ⟨(by dsimp!), o, plainS ++ keep, rfl, rfl, ho o hxm, by rw [List.length_append]; omega, rfl, ?_⟩
      simp!
      exact hY
    · have e : (os.map fun o => D.str (escC (plainS ++ keep) o)) = (os.map (escC (plainS ++ keep))).map .str := by rw [List.map_map]; rfl
      rw [e]
      have hsum := escs_sum (plainS ++ keep) os
      simp!
      refine ⟨(show ((os.map (escC (plainS ++ keep))).map List.length).sum + (os.map (escC (plainS ++ keep))).length * 0 ≤ 16777216 by omega), ?_⟩
      simp!
      show K0 (.str (jn [] (os.map (escC (plainS ++ keep))))) []
      rw [jn_flat]
      exact k
  · rintro d r Γ M N4 hN4 ⟨hd, rfl, o2, o3, rfl⟩
    obtain ⟨i, o, h8, rfl⟩ := hd _ List.mem_cons_self
    refine ⟨trivial, ?_⟩
    unfold lb0_p_escaped
    rw [e_tgt]
    refine ⟨rfl, ?_⟩
    simp only [setAll, List.set_cons_succ, List.set_cons_zero]
    simp!
    refine ⟨(by dsimp!), o, rfl, rfl, h8, rfl, ?_⟩
    simp!
    exact hN4 _ _ ⟨fun e he => hd e (List.mem_cons_of_mem _ he), rfl, _, _, rfl⟩
  · intro d hd
    unfold enD at hd
    obtain ⟨i, hi, rfl⟩ := List.mem_mapIdx.mp hd
    have hm : (natsD os)[i]'(by simpa using hi) ∈ natsD os := List.getElem_mem _
    obtain ⟨z, hz, e⟩ := List.mem_map.mp hm
    exact ⟨i, z, ho z hz, by rw [e]; rfl⟩
def gD_p_escaped_Kkeep : List D → List D → List D := fun ds es => ds ++ es
def Ok8 (t : Tx) : Prop := t.length ≤ 1000 ∧ ∀ c ∈ t, c < 256
def sp_p_written_word : DSpec := fun ds M K _ => ∃ t keep : Tx, ds = [.str t, .str keep] ∧ M = [] ∧ Ok8 t ∧ keep.length ≤ 200 ∧ K (.str (escs (plainS ++ keep) t)) []
def rd_p_written_word : DS :=
  (dRet (dFnK (cPure sp_p_escaped) gD_p_escaped_Kkeep 1 1 (aCons (dLc (iStr' (dVar 0)) (Tgt.nm 2) qYes (dCall rOrd (aCons (dVar 2) aNil)) [2]) aNil) (aCons (dVar 1) aNil)))
theorem gr_natsD_iff {os : List Nat} : Gr (.ls (natsD os)) ↔ True := iff_true_intro (gr_ls.mpr (gr_nats os))
theorem sem_p_written_word (ds : List D) (M : MM) (K0 : Kd) (R0 : Kx) (h : sp_p_written_word ds M K0 R0) : rd_p_written_word (endG M.length K0 R0) (startG 3 ds) M := by
  obtain ⟨t, keep, rfl, rfl, ⟨ht, h8⟩, hk, k⟩ := h
  unfold rd_p_written_word
  simp!
  refine comp_map (enc := fun c => .str [c]) (g := fun c : Nat => D.int (c : Nat)) t (by first | trivial | rfl) (by omega) (fun c hxm Y hY => ?_) ?_
  · simp!
    exact hY
  · simp!
    unfold gD_p_escaped_Kkeep
    refine ⟨List.forall_mem_cons.mpr ⟨gr_natsD_iff.mpr trivial, fun x hx => by rw [List.mem_singleton.mp hx]; exact gr_str_iff.mpr trivial⟩, t, keep, rfl, rfl, by omega, hk, h8, rfl, ?_⟩
    simp!
    exact k
def keyS : Tx := [33, 36, 39, 40, 41, 42, 43, 44, 59, 58, 64, 47, 63]
def itemOf (p : Tx × Option Tx) : Tx := match p.2 with
  | none => escs (plainS ++ keyS) p.1
  | some v => escs (plainS ++ keyS) p.1 ++ [61] ++ escs (plainS ++ (keyS ++ [61])) v
def OkP (p : Tx × Option Tx) : Prop := Ok8 p.1 ∧ ∀ v, p.2 = some v → Ok8 v
def sp_p_item_of : DSpec := fun ds M K _ => ∃ p : Tx × Option Tx, ds = [.str p.1, optD p.2] ∧ M = [] ∧ OkP p ∧ K (.str (itemOf p)) []
def rd_p_item_of : DS :=
  (dSeq (dSet 2 (dFn (cPure sp_p_written_word) [] (aCons (dVar 0) (aCons (dC (.str [33, 36, 39, 40, 41, 42, 43, 44, 59, 58, 64, 47, 63])) aNil))))
    (dRet (dIf (qTru (dOp (rIsN' false) (dVar 1) (dC .non))) (dVar 2) (dOp rAddD (dOp rAddD (dVar 2) (dC (.str [61]))) (dFn (cPure sp_p_written_word) [] (aCons (dVar 1) (aCons (dOp rAddD (dC (.str [33, 36, 39, 40, 41, 42, 43, 44, 59, 58, 64, 47, 63])) (dC (.str [61]))) aNil)))))))
theorem sem_p_item_of (ds : List D) (M : MM) (K0 : Kd) (R0 : Kx) (h : sp_p_item_of ds M K0 R0) : rd_p_item_of (endG M.length K0 R0) (startG 3 ds) M := by
  obtain ⟨⟨a, o⟩, rfl, rfl, ⟨h1, h2⟩, k⟩ := h
  have e1 := escs_len (plainS ++ keyS) a
  have l1 : a.length ≤ 1000 := h1.1
  unfold rd_p_item_of
  refine seq_g fun N hN => ?_
  simp!
  refine ⟨(by dsimp!), a, keyS, rfl, rfl, h1, by decide, rfl, ?_⟩
  simp!
  rw [hN]
  clear hN
  cases o with
  | none =>
    simp! [optD_n]
    exact k
  | some v =>
    have h3 := h2 v rfl
    have l3 := h3.1
    have e3 := escs_len (plainS ++ (keyS ++ [61])) v
    simp! [optD_s]
    refine ⟨Nat.le_trans (escs_len _ _) (by omega), ?_⟩
    simp!
    refine ⟨(by dsimp!), v, keyS ++ [61], rfl, rfl, h3, by decide, rfl, ?_⟩
    simp!
    refine ⟨(by refine Nat.le_trans (Nat.add_le_add (Nat.add_le_add (escs_len _ _) (Nat.le_refl 1)) (escs_len _ _)) ?_; omega), ?_⟩
    simp!
    exact k
theorem itemOf_len {p : Tx × Option Tx} (h : OkP p) : (itemOf p).length ≤ 6001 := by
  obtain ⟨a, o⟩ := p
  have e1 := escs_len (plainS ++ keyS) a
  have l1 : a.length ≤ 1000 := h.1.1
  cases o with
  | none =>
    show (escs (plainS ++ keyS) a).length ≤ _
    omega
  | some v =>
    have l3 : v.length ≤ 1000 := (h.2 v rfl).1
    have e3 := escs_len (plainS ++ (keyS ++ [61])) v
    show (escs (plainS ++ keyS) a ++ [61] ++ escs (plainS ++ (keyS ++ [61])) v).length ≤ _
    rw [List.length_append, List.length_append]
    show _ + 1 + _ ≤ _
    omega
def queryOf (ps : List (Tx × Option Tx)) : Tx := jn [38] (ps.map itemOf)
abbrev prD (p : Tx × Option Tx) : D := .tp [.str p.1, optD p.2]
theorem items_sum : ∀ l : List (Tx × Option Tx), (∀ p ∈ l, OkP p) → ((l.map itemOf).map List.length).sum ≤ 6001 * l.length
  | [], _ => Nat.zero_le _
  | x :: l, hx => by
    have h1 := itemOf_len (hx x List.mem_cons_self)
    have h2 := items_sum l fun p hp => hx p (List.mem_cons_of_mem _ hp)
    simp only [List.map_cons, List.sum_cons, List.length_cons]
    omega
def sp_p_query_of : DSpec := fun ds M K _ => ∃ ps : List (Tx × Option Tx), ds = [.ls (ps.map prD)] ∧ M = [] ∧ ps.length ≤ 1000 ∧ (∀ p ∈ ps, OkP p) ∧ K (.str (queryOf ps)) []
def rd_p_query_of : DS :=
  (dRet (dM mJoin (dC (.str [38])) (aCons (dLc (iLst (dVar 0)) (Tgt.tup [1, 2]) qYes (dFn (cPure sp_p_item_of) [] (aCons (dVar 1) (aCons (dVar 2) aNil))) [1, 2]) aNil)))
theorem sem_p_query_of (ds : List D) (M : MM) (K0 : Kd) (R0 : Kx) (h : sp_p_query_of ds M K0 R0) : rd_p_query_of (endG M.length K0 R0) (startG 3 ds) M := by
  obtain ⟨ps, rfl, rfl, hl, ho, k⟩ := h
  unfold rd_p_query_of
  simp!
  refine comp_map (enc := prD) (g := fun p => .str (itemOf p)) ps (by first | trivial | rfl) (by omega) (fun p hxm Y hY => ?_) ?_
  · simp!
    refine ⟨(by dsimp!), p, rfl, rfl, ho p hxm, rfl, ?_⟩
    simp!
    exact hY
  · have e : (ps.map fun p => D.str (itemOf p)) = (ps.map itemOf).map .str := by rw [List.map_map]; rfl
    rw [e]
    have hsum := items_sum ps ho
    simp!
    refine ⟨(show ((ps.map itemOf).map List.length).sum + ps.length * 1 ≤ 16777216 by omega), ?_⟩
    simp!
    exact k
end L3

namespace L3
open PySem PySem.Spec PyProof.Rows L2 Evl
open Classical
local macro_rules | `(tactic| simp!) => `(tactic| try simp only [↓e_while, ↓e_var, ↓e_c, ↓e_op, ↓e_nil, ↓e_cons, ↓e_tup, ↓e_lst, ↓e_lstC, ↓e_tru, ↓e_qnot, ↓e_qand, ↓e_qor, ↓e_qyes, ↓e_if, ↓e_not, ↓e_and, ↓e_or, ↓e_neg, ↓e_chain, ↓e_call, ↓e_no, ↓e_part, ↓e_sl, ↓e_slC, ↓e_fn, ↓e_fn0, ↓e_fnK, ↓e_m0, ↓e_m, ↓e_frz, ↓e_fz, ↓e_app, ↓e_lc, ↓e_esc, ↓e_next, ↓e_seq, ↓e_ret, ↓e_retN, ↓e_drop, ↓e_set, ↓e_ifS, ↓e_brk, ↓e_cnt, ↓e_par, ↓e_aug, ↓e_setIx, ↓e_for, ↓e_unp, ↓e_nm, ↓e_tgt, ↓e_iLst, ↓e_iTp, ↓e_iStr, ↓e_iR1, ↓isR1_s, ↓e_iR2, ↓isR2_s, ↓e_iEn, ↓isEn_s, ↓e_iEnS, ↓isEnS_s, ↓r_addI, ↓r_addS, ↓r_addT, ↓r_addL, ↓r_iaddI, ↓r_iaddS, ↓r_sub, ↓r_mulI, ↓r_mulL, ↓r_mod, ↓r_fdiv, ↓r_pow, ↓r_ordI, ↓r_ordS, ↓r_is, ↓r_inS, ↓r_ixS, ↓r_ixL, ↓r_ixR, ↓r_ixT, ↓r_ixC, ↓r_slS, ↓r_slT, ↓r_slL, ↓r_slR, ↓r_lenS, ↓r_lenL, ↓r_lenT, ↓r_lenR, ↓r_abs, ↓r_max, ↓r_min, ↓r_intI, ↓r_intB, ↓r_ord, ↓r_listL, ↓r_listT, ↓r_tupL, ↓r_tupT, ↓r_split, ↓r_part, ↓r_join, ↓r_joinC, ↓r_starts, ↓r_ends, ↓r_lower, ↓r_upper, ↓r_rfind, ↓r_index, ↓r_all, ↓r_any, ↓r_sum, ↓r_hex, ↓r_isi, ↓r_eqS, ↓r_neS, ↓r_eqI, ↓r_neI, ↓r_eqB, ↓r_neB, ↓r_eqL, ↓r_neL, ↓r_eqL0, ↓r_neL0, ↓t_s, ↓r_eq00, ↓r_ne00, ↓gets_s, ↓gets_n, ↓onS_s, ↓onI_s, ↓onC_s, ↓onB_s, ↓onL_s, ↓thenP_t, ↓ifI_t, ↓ifI_f, ifI_t, ifI_f, gets_s, gets_n, onS_s, onI_s, onC_s, onB_s, onL_s, thenP_t, gets_if, endG_rt, endG_rz, endG_nx, endN_rt, has_ls1, has_ls2, startG, wipeG, setAll, cut_from1, cut_init, atI_0, atI_1, atI_2, atI_last, List.map_cons, List.map_nil, List.cons_append, List.nil_append, List.append_nil, List.replicate, List.getElem?_cons_zero, List.getElem?_cons_succ, List.getElem?_nil, List.set_cons_zero, List.set_cons_succ, List.length_cons, List.length_nil, List.length_map, List.length_append, Nat.zero_add, Nat.sub_zero, Nat.reduceSub, Nat.reduceAdd, Nat.reduceLeDiff, List.isEmpty_cons, List.isEmpty_nil, true_and, and_true, if_true, if_false, reduceIte, Bool.not_true, Bool.not_false, Bool.not_not, Bool.false_eq_true, reduceCtorEq, List.forall_mem_cons, List.forall_mem_nil, implies_true, List.mem_singleton, decide_eq_true_eq, Bool.not_eq_true', decide_eq_false_iff_not, okM0_iff, okM1c, List.take_zero, List.take_succ_cons, gr_str_iff, gr_int_iff, gr_bl_iff, gr_non_iff, gr_lss_iff, gr_ls0_iff, lsOf_ls, lsOf_rl, lsOf_c, sqOf_ls, sqOf_rl, sqOf_tp, sqOf_c, lsOwn_ls, lsOwn_c, tpOf_tp, truD_ls, truD_rl, truD_tp, truD_bl, truD_int, truD_non, isNon, tyD, get_snoc, set_snoc, not_true_eq_false, not_false_eq_true, Option.some.injEq, Int.reduceLT, Int.reduceLE, Int.reduceNeg, Int.reducePow, Int.reduceToNat, and_self, atI_nat, inS_one, ↓e_tab, ↓r_isBl, ↓r_isiO, ↓e_prop, ↓e_mk, ↓e_mkL, ↓e_meth, ↓e_cval, ↓e_cm, ↓e_setF, ↓e_zp, ↓e_enSK, ↓e_par3, ↓r_find, ↓e_asg3, ↓e_dispC, ↓e_dtIx, ↓onDt_s, ↓e_get2, ↓e_tabG, ↓tabGI_s, ↓tabGI_n, ↓r_lstrip, ↓e_unpL])
local macro_rules | `(tactic| simp! [$xs,*]) => `(tactic| try simp only [↓e_while, ↓e_var, ↓e_c, ↓e_op, ↓e_nil, ↓e_cons, ↓e_tup, ↓e_lst, ↓e_lstC, ↓e_tru, ↓e_qnot, ↓e_qand, ↓e_qor, ↓e_qyes, ↓e_if, ↓e_not, ↓e_and, ↓e_or, ↓e_neg, ↓e_chain, ↓e_call, ↓e_no, ↓e_part, ↓e_sl, ↓e_slC, ↓e_fn, ↓e_fn0, ↓e_fnK, ↓e_m0, ↓e_m, ↓e_frz, ↓e_fz, ↓e_app, ↓e_lc, ↓e_esc, ↓e_next, ↓e_seq, ↓e_ret, ↓e_retN, ↓e_drop, ↓e_set, ↓e_ifS, ↓e_brk, ↓e_cnt, ↓e_par, ↓e_aug, ↓e_setIx, ↓e_for, ↓e_unp, ↓e_nm, ↓e_tgt, ↓e_iLst, ↓e_iTp, ↓e_iStr, ↓e_iR1, ↓isR1_s, ↓e_iR2, ↓isR2_s, ↓e_iEn, ↓isEn_s, ↓e_iEnS, ↓isEnS_s, ↓r_addI, ↓r_addS, ↓r_addT, ↓r_addL, ↓r_iaddI, ↓r_iaddS, ↓r_sub, ↓r_mulI, ↓r_mulL, ↓r_mod, ↓r_fdiv, ↓r_pow, ↓r_ordI, ↓r_ordS, ↓r_is, ↓r_inS, ↓r_ixS, ↓r_ixL, ↓r_ixR, ↓r_ixT, ↓r_ixC, ↓r_slS, ↓r_slT, ↓r_slL, ↓r_slR, ↓r_lenS, ↓r_lenL, ↓r_lenT, ↓r_lenR, ↓r_abs, ↓r_max, ↓r_min, ↓r_intI, ↓r_intB, ↓r_ord, ↓r_listL, ↓r_listT, ↓r_tupL, ↓r_tupT, ↓r_split, ↓r_part, ↓r_join, ↓r_joinC, ↓r_starts, ↓r_ends, ↓r_lower, ↓r_upper, ↓r_rfind, ↓r_index, ↓r_all, ↓r_any, ↓r_sum, ↓r_hex, ↓r_isi, ↓r_eqS, ↓r_neS, ↓r_eqI, ↓r_neI, ↓r_eqB, ↓r_neB, ↓r_eqL, ↓r_neL, ↓r_eqL0, ↓r_neL0, ↓t_s, ↓r_eq00, ↓r_ne00, ↓gets_s, ↓gets_n, ↓onS_s, ↓onI_s, ↓onC_s, ↓onB_s, ↓onL_s, ↓thenP_t, ↓ifI_t, ↓ifI_f, ifI_t, ifI_f, gets_s, gets_n, onS_s, onI_s, onC_s, onB_s, onL_s, thenP_t, gets_if, endG_rt, endG_rz, endG_nx, endN_rt, has_ls1, has_ls2, startG, wipeG, setAll, cut_from1, cut_init, atI_0, atI_1, atI_2, atI_last, List.map_cons, List.map_nil, List.cons_append, List.nil_append, List.append_nil, List.replicate, List.getElem?_cons_zero, List.getElem?_cons_succ, List.getElem?_nil, List.set_cons_zero, List.set_cons_succ, List.length_cons, List.length_nil, List.length_map, List.length_append, Nat.zero_add, Nat.sub_zero, Nat.reduceSub, Nat.reduceAdd, Nat.reduceLeDiff, List.isEmpty_cons, List.isEmpty_nil, true_and, and_true, if_true, if_false, reduceIte, Bool.not_true, Bool.not_false, Bool.not_not, Bool.false_eq_true, reduceCtorEq, List.forall_mem_cons, List.forall_mem_nil, implies_true, List.mem_singleton, decide_eq_true_eq, Bool.not_eq_true', decide_eq_false_iff_not, okM0_iff, okM1c, List.take_zero, List.take_succ_cons, gr_str_iff, gr_int_iff, gr_bl_iff, gr_non_iff, gr_lss_iff, gr_ls0_iff, lsOf_ls, lsOf_rl, lsOf_c, sqOf_ls, sqOf_rl, sqOf_tp, sqOf_c, lsOwn_ls, lsOwn_c, tpOf_tp, truD_ls, truD_rl, truD_tp, truD_bl, truD_int, truD_non, isNon, tyD, get_snoc, set_snoc, not_true_eq_false, not_false_eq_true, Option.some.injEq, Int.reduceLT, Int.reduceLE, Int.reduceNeg, Int.reducePow, Int.reduceToNat, and_self, atI_nat, inS_one, ↓e_tab, ↓r_isBl, ↓r_isiO, ↓e_prop, ↓e_mk, ↓e_mkL, ↓e_meth, ↓e_cval, ↓e_cm, ↓e_setF, ↓e_zp, ↓e_enSK, ↓e_par3, ↓r_find, ↓e_asg3, ↓e_dispC, ↓e_dtIx, ↓onDt_s, ↓e_get2, ↓e_tabG, ↓tabGI_s, ↓tabGI_n, ↓r_lstrip, ↓e_unpL, $xs,*])
/-! ### octets written, odd things refused -/
def oddL : List D := [.int (-1), .int 256, .bl true, .non, .str [97], .int (10 ^ 30), .ls [], .tp [.int 1]]
theorem e_raise {c f : Str} {t : DE} {E : DEnds} {Γ : G} {M : MM} : dRaise c f t E Γ M = t Γ M (fun d M1 => E.rz ⟨c, [f], [d]⟩ Γ M1) E.rz := rfl
def sp_p_is_octet2 : DSpec := fun ds M K _ => ∃ d, ds = [d] ∧ M = [] ∧ ((∃ o : Nat, d = .int o ∧ o < 256 ∧ K (.bl true) []) ∨ (d ∈ oddL ∧ K (.bl false) []))
def rd_p_is_octet2 : DS :=
  (dRet (dAnd (dCall rIsiD (aCons (dVar 0) (aCons (dC (.ty "int")) aNil))) (dAnd (dNot (dCall rIsiD (aCons (dVar 0) (aCons (dC (.ty "bool")) aNil)))) (dChain rLeD rLeD (dC (.int 0)) (dVar 0) (dC (.int 255))))))
theorem sem_p_is_octet2 (ds : List D) (M : MM) (K0 : Kd) (R0 : Kx) (h : sp_p_is_octet2 ds M K0 R0) : rd_p_is_octet2 (endG M.length K0 R0) (startG 1 ds) M := by
  obtain ⟨d, rfl, rfl, h⟩ := h
  unfold rd_p_is_octet2
  rcases h with ⟨o, rfl, ho, k⟩ | ⟨hd, k⟩
  · simp!
    refine gets_i (a := true) rfl ?_
    simp!
    refine gets_i (a := false) rfl ?_
    simp!
    rw [ifI_p (by omega)]
    simp!
    rw [decide_eq_true (by omega)]
    exact k
  · simp only [oddL, List.mem_cons, List.not_mem_nil, or_false] at hd
    rcases hd with rfl | rfl | rfl | rfl | rfl | rfl | rfl | rfl
    · simp!
      refine gets_i (a := true) rfl ?_
      simp!
      refine gets_i (a := false) rfl ?_
      simp!
      exact k
    · simp!
      refine gets_i (a := true) rfl ?_
      simp!
      refine gets_i (a := false) rfl ?_
      simp!
      exact k
    · simp!
      refine gets_i (a := true) rfl ?_
      simp!
      refine gets_i (a := true) rfl ?_
      simp!
      exact k
    · simp!
      refine gets_i (a := false) rfl ?_
      simp!
      exact k
    · simp!
      refine gets_i (a := false) rfl ?_
      simp!
      exact k
    · simp!
      refine gets_i (a := true) rfl ?_
      simp!
      refine gets_i (a := false) rfl ?_
      simp!
      exact k
    · simp!
      refine gets_i (a := false) rfl ?_
      simp!
      exact k
    · simp!
      refine gets_i (a := false) rfl ?_
      simp!
      exact k
end L3

namespace L3
open PySem PySem.Spec PyProof.Rows L2 Evl
open Classical
local macro_rules | `(tactic| simp!) => `(tactic| try simp only [↓e_while, ↓e_var, ↓e_c, ↓e_op, ↓e_nil, ↓e_cons, ↓e_tup, ↓e_lst, ↓e_lstC, ↓e_tru, ↓e_qnot, ↓e_qand, ↓e_qor, ↓e_qyes, ↓e_if, ↓e_not, ↓e_and, ↓e_or, ↓e_neg, ↓e_chain, ↓e_call, ↓e_no, ↓e_part, ↓e_sl, ↓e_slC, ↓e_fn, ↓e_fn0, ↓e_fnK, ↓e_m0, ↓e_m, ↓e_frz, ↓e_fz, ↓e_app, ↓e_lc, ↓e_esc, ↓e_next, ↓e_seq, ↓e_ret, ↓e_retN, ↓e_drop, ↓e_set, ↓e_ifS, ↓e_brk, ↓e_cnt, ↓e_par, ↓e_aug, ↓e_setIx, ↓e_for, ↓e_unp, ↓e_nm, ↓e_tgt, ↓e_iLst, ↓e_iTp, ↓e_iStr, ↓e_iR1, ↓isR1_s, ↓e_iR2, ↓isR2_s, ↓e_iEn, ↓isEn_s, ↓e_iEnS, ↓isEnS_s, ↓r_addI, ↓r_addS, ↓r_addT, ↓r_addL, ↓r_iaddI, ↓r_iaddS, ↓r_sub, ↓r_mulI, ↓r_mulL, ↓r_mod, ↓r_fdiv, ↓r_pow, ↓r_ordI, ↓r_ordS, ↓r_is, ↓r_inS, ↓r_ixS, ↓r_ixL, ↓r_ixR, ↓r_ixT, ↓r_ixC, ↓r_slS, ↓r_slT, ↓r_slL, ↓r_slR, ↓r_lenS, ↓r_lenL, ↓r_lenT, ↓r_lenR, ↓r_abs, ↓r_max, ↓r_min, ↓r_intI, ↓r_intB, ↓r_ord, ↓r_listL, ↓r_listT, ↓r_tupL, ↓r_tupT, ↓r_split, ↓r_part, ↓r_join, ↓r_joinC, ↓r_starts, ↓r_ends, ↓r_lower, ↓r_upper, ↓r_rfind, ↓r_index, ↓r_all, ↓r_any, ↓r_sum, ↓r_hex, ↓r_isi, ↓r_eqS, ↓r_neS, ↓r_eqI, ↓r_neI, ↓r_eqB, ↓r_neB, ↓r_eqL, ↓r_neL, ↓r_eqL0, ↓r_neL0, ↓t_s, ↓r_eq00, ↓r_ne00, ↓gets_s, ↓gets_n, ↓onS_s, ↓onI_s, ↓onC_s, ↓onB_s, ↓onL_s, ↓thenP_t, ↓ifI_t, ↓ifI_f, ifI_t, ifI_f, gets_s, gets_n, onS_s, onI_s, onC_s, onB_s, onL_s, thenP_t, gets_if, endG_rt, endG_rz, endG_nx, endN_rt, has_ls1, has_ls2, startG, wipeG, setAll, cut_from1, cut_init, atI_0, atI_1, atI_2, atI_last, List.map_cons, List.map_nil, List.cons_append, List.nil_append, List.append_nil, List.replicate, List.getElem?_cons_zero, List.getElem?_cons_succ, List.getElem?_nil, List.set_cons_zero, List.set_cons_succ, List.length_cons, List.length_nil, List.length_map, List.length_append, Nat.zero_add, Nat.sub_zero, Nat.reduceSub, Nat.reduceAdd, Nat.reduceLeDiff, List.isEmpty_cons, List.isEmpty_nil, true_and, and_true, if_true, if_false, reduceIte, Bool.not_true, Bool.not_false, Bool.not_not, Bool.false_eq_true, reduceCtorEq, List.forall_mem_cons, List.forall_mem_nil, implies_true, List.mem_singleton, decide_eq_true_eq, Bool.not_eq_true', decide_eq_false_iff_not, okM0_iff, okM1c, List.take_zero, List.take_succ_cons, gr_str_iff, gr_int_iff, gr_bl_iff, gr_non_iff, gr_lss_iff, gr_ls0_iff, lsOf_ls, lsOf_rl, lsOf_c, sqOf_ls, sqOf_rl, sqOf_tp, sqOf_c, lsOwn_ls, lsOwn_c, tpOf_tp, truD_ls, truD_rl, truD_tp, truD_bl, truD_int, truD_non, isNon, tyD, get_snoc, set_snoc, not_true_eq_false, not_false_eq_true, Option.some.injEq, Int.reduceLT, Int.reduceLE, Int.reduceNeg, Int.reducePow, Int.reduceToNat, and_self, atI_nat, inS_one, ↓e_tab, ↓r_isBl, ↓r_isiO, ↓e_prop, ↓e_mk, ↓e_mkL, ↓e_meth, ↓e_cval, ↓e_cm, ↓e_setF, ↓e_zp, ↓e_enSK, ↓e_par3, ↓r_find, ↓e_asg3, ↓e_dispC, ↓e_dtIx, ↓onDt_s, ↓e_get2, ↓e_tabG, ↓tabGI_s, ↓tabGI_n, ↓r_lstrip, ↓e_unpL])
local macro_rules | `(tactic| simp! [$xs,*]) => `(tactic| try simp only [↓e_while, ↓e_var, ↓e_c, ↓e_op, ↓e_nil, ↓e_cons, ↓e_tup, ↓e_lst, ↓e_lstC, ↓e_tru, ↓e_qnot, ↓e_qand, ↓e_qor, ↓e_qyes, ↓e_if, ↓e_not, ↓e_and, ↓e_or, ↓e_neg, ↓e_chain, ↓e_call, ↓e_no, ↓e_part, ↓e_sl, ↓e_slC, ↓e_fn, ↓e_fn0, ↓e_fnK, ↓e_m0, ↓e_m, ↓e_frz, ↓e_fz, ↓e_app, ↓e_lc, ↓e_esc, ↓e_next, ↓e_seq, ↓e_ret, ↓e_retN, ↓e_drop, ↓e_set, ↓e_ifS, ↓e_brk, ↓e_cnt, ↓e_par, ↓e_aug, ↓e_setIx, ↓e_for, ↓e_unp, ↓e_nm, ↓e_tgt, ↓e_iLst, ↓e_iTp, ↓e_iStr, ↓e_iR1, ↓isR1_s, ↓e_iR2, ↓isR2_s, ↓e_iEn, ↓isEn_s, ↓e_iEnS, ↓isEnS_s, ↓r_addI, ↓r_addS, ↓r_addT, ↓r_addL, ↓r_iaddI, ↓r_iaddS, ↓r_sub, ↓r_mulI, ↓r_mulL, ↓r_mod, ↓r_fdiv, ↓r_pow, ↓r_ordI, ↓r_ordS, ↓r_is, ↓r_inS, ↓r_ixS, ↓r_ixL, ↓r_ixR, ↓r_ixT, ↓r_ixC, ↓r_slS, ↓r_slT, ↓r_slL, ↓r_slR, ↓r_lenS, ↓r_lenL, ↓r_lenT, ↓r_lenR, ↓r_abs, ↓r_max, ↓r_min, ↓r_intI, ↓r_intB, ↓r_ord, ↓r_listL, ↓r_listT, ↓r_tupL, ↓r_tupT, ↓r_split, ↓r_part, ↓r_join, ↓r_joinC, ↓r_starts, ↓r_ends, ↓r_lower, ↓r_upper, ↓r_rfind, ↓r_index, ↓r_all, ↓r_any, ↓r_sum, ↓r_hex, ↓r_isi, ↓r_eqS, ↓r_neS, ↓r_eqI, ↓r_neI, ↓r_eqB, ↓r_neB, ↓r_eqL, ↓r_neL, ↓r_eqL0, ↓r_neL0, ↓t_s, ↓r_eq00, ↓r_ne00, ↓gets_s, ↓gets_n, ↓onS_s, ↓onI_s, ↓onC_s, ↓onB_s, ↓onL_s, ↓thenP_t, ↓ifI_t, ↓ifI_f, ifI_t, ifI_f, gets_s, gets_n, onS_s, onI_s, onC_s, onB_s, onL_s, thenP_t, gets_if, endG_rt, endG_rz, endG_nx, endN_rt, has_ls1, has_ls2, startG, wipeG, setAll, cut_from1, cut_init, atI_0, atI_1, atI_2, atI_last, List.map_cons, List.map_nil, List.cons_append, List.nil_append, List.append_nil, List.replicate, List.getElem?_cons_zero, List.getElem?_cons_succ, List.getElem?_nil, List.set_cons_zero, List.set_cons_succ, List.length_cons, List.length_nil, List.length_map, List.length_append, Nat.zero_add, Nat.sub_zero, Nat.reduceSub, Nat.reduceAdd, Nat.reduceLeDiff, List.isEmpty_cons, List.isEmpty_nil, true_and, and_true, if_true, if_false, reduceIte, Bool.not_true, Bool.not_false, Bool.not_not, Bool.false_eq_true, reduceCtorEq, List.forall_mem_cons, List.forall_mem_nil, implies_true, List.mem_singleton, decide_eq_true_eq, Bool.not_eq_true', decide_eq_false_iff_not, okM0_iff, okM1c, List.take_zero, List.take_succ_cons, gr_str_iff, gr_int_iff, gr_bl_iff, gr_non_iff, gr_lss_iff, gr_ls0_iff, lsOf_ls, lsOf_rl, lsOf_c, sqOf_ls, sqOf_rl, sqOf_tp, sqOf_c, lsOwn_ls, lsOwn_c, tpOf_tp, truD_ls, truD_rl, truD_tp, truD_bl, truD_int, truD_non, isNon, tyD, get_snoc, set_snoc, not_true_eq_false, not_false_eq_true, Option.some.injEq, Int.reduceLT, Int.reduceLE, Int.reduceNeg, Int.reducePow, Int.reduceToNat, and_self, atI_nat, inS_one, ↓e_tab, ↓r_isBl, ↓r_isiO, ↓e_prop, ↓e_mk, ↓e_mkL, ↓e_meth, ↓e_cval, ↓e_cm, ↓e_setF, ↓e_zp, ↓e_enSK, ↓e_par3, ↓r_find, ↓e_asg3, ↓e_dispC, ↓e_dtIx, ↓onDt_s, ↓e_get2, ↓e_tabG, ↓tabGI_s, ↓tabGI_n, ↓r_lstrip, ↓e_unpL, $xs,*])
local macro_rules | `(tactic| dsimp!) => `(tactic| simp only [List.forall_mem_cons, List.forall_mem_nil, List.mem_singleton, forall_eq, implies_true, and_true, true_and, gr_str_iff, gr_int_iff, gr_bl_iff, gr_non_iff, gr_lss_iff, gr_ls0_iff, gr_opt_iff, gr_ints_iff, gr_rl_iff, gr_tpU_iff, gr_obU_iff, gr_cl_iff, gr_tp0_iff, gr_tpc_iff, gr_lsc_iff])
def escK (keep : Tx) (os : List Nat) : Tx := escs (plainS ++ keep) os
def sp_p_escaped2 : DSpec := fun ds M K R => ∃ (os : List Nat) (rst : List D) (keep : Tx), ds = [.ls (natsD os ++ rst), .str keep] ∧ M = [] ∧ os.length + rst.length ≤ 10000 ∧ keep.length ≤ 200 ∧ (∀ o ∈ os, o < 256) ∧
  ((rst = [] ∧ K (.str (escK keep os)) []) ∨ ∃ d r, rst = d :: r ∧ d ∈ oddL ∧ R ⟨"NoOctet", ["place"], [.int (os.length : Nat)]⟩ [])
def lb0_p_escaped2 : DS :=
  (dIfS (qNot (qTru (dFn (cPure sp_p_is_octet2) [] (aCons (dVar 3) aNil))))
    (dRaise "NoOctet" "place" (dVar 2))
    dNext)
def rd_p_escaped2 : DS :=
  (dSeq (dFor (iEn (aCons (dVar 0) aNil)) (Tgt.tup [2, 3]) lb0_p_escaped2)
    (dRet (dM mJoin (dC (.str [])) (aCons (dLc (iLst (dVar 0)) (Tgt.nm 3) qYes (dFn (cPure sp_p_sign_or_escape) [] (aCons (dVar 3) (aCons (dOp rAddD (dC (.str [45, 46, 48, 49, 50, 51, 52, 53, 54, 55, 56, 57, 65, 66, 67, 68, 69, 70, 71, 72, 73, 74, 75, 76, 77, 78, 79, 80, 81, 82, 83, 84, 85, 86, 87, 88, 89, 90, 95, 97, 98, 99, 100, 101, 102, 103, 104, 105, 106, 107, 108, 109, 110, 111, 112, 113, 114, 115, 116, 117, 118, 119, 120, 121, 122, 126])) (dVar 1)) aNil))) [3]) aNil))))
def enR (i : Nat) (l : List D) : List D := l.mapIdx fun j d => .tp [.int ((i + j : Nat) : Nat), d]
theorem enR_cons (i : Nat) (d : D) (l : List D) : enR i (d :: l) = .tp [.int (i : Nat), d] :: enR (i + 1) l := by
  unfold enR
  rw [List.mapIdx_cons]
  congr 1
  congr 1
  funext j x
  rw [show i + (j + 1) = i + 1 + j by omega]
theorem enD_enR (l : List D) : enD (fun d => d) l = enR 0 l := by
  unfold enD enR
  congr 1
  funext j x
  rw [Nat.zero_add]
theorem enR_nil {i : Nat} {l : List D} (h : enR i l = []) : l = [] := by
  cases l with
  | nil => rfl
  | cons d l => rw [enR_cons] at h; cases h
theorem sem_p_escaped2 (ds : List D) (M : MM) (K0 : Kd) (R0 : Kx) (h : sp_p_escaped2 ds M K0 R0) : rd_p_escaped2 (endG M.length K0 R0) (startG 4 ds) M := by
  obtain ⟨os, rst, keep, rfl, rfl, hl, hk, ho, k⟩ := h
  unfold rd_p_escaped2
  refine seq_g fun N hN => ?_
  simp!
  refine for_ind (P := fun l Γ M => M = [] ∧ ∃ (a b : List Nat) (o2 o3 : Option D), os = a ++ b ∧ l = enR a.length (natsD b ++ rst) ∧ Γ = [some (.ls (natsD os ++ rst)), some (.str keep), o2, o3]) ?_ ?_ _ _ _ ⟨rfl, [], os, none, none, rfl, ?_, rfl⟩
  · rintro Γ M ⟨rfl, a, b, o2, o3, hab, hl2, rfl⟩
    refine ⟨trivial, ?_⟩
    have e := enR_nil hl2.symm
    have hr : rst = [] := (List.append_eq_nil_iff.mp e).2
    subst hr
    rcases k with ⟨_, k⟩ | ⟨d, r, e2, _⟩
    · show N _ _
      rw [hN]
      clear hN
      rw [List.append_nil]
      have hpl : plainS.length = 66 := rfl
      rw [List.length_nil] at hl
      simp!
      refine comp_map (enc := fun o : Nat => D.int (o : Nat)) (g := fun o => .str (escC (plainS ++ keep) o)) os (by first | trivial | rfl) (by omega) (fun o hxm Y hY => ?_) ?_
      · simp!
        refine ⟨by omega, ?_⟩
        simp!
        refine ⟨(by dsimp!), o, plainS ++ keep, rfl, rfl, ho o hxm, by rw [List.length_append]; omega, rfl, ?_⟩
        simp!
        exact hY
      · have e : (os.map fun o => D.str (escC (plainS ++ keep) o)) = (os.map (escC (plainS ++ keep))).map .str := by rw [List.map_map]; rfl
        rw [e]
        have hsum := escs_sum (plainS ++ keep) os
        simp!
        refine ⟨(show ((os.map (escC (plainS ++ keep))).map List.length).sum + (os.map (escC (plainS ++ keep))).length * 0 ≤ 16777216 by omega), ?_⟩
        simp!
        show K0 (.str (jn [] (os.map (escC (plainS ++ keep))))) []
        rw [jn_flat]
        exact k
    · cases e2
  · rintro d r Γ M N4 hN4 ⟨rfl, a, b, o2, o3, hab, hl2, rfl⟩
    refine ⟨trivial, ?_⟩
    cases b with
    | cons o b =>
      rw [show natsD (o :: b) ++ rst = .int (o : Nat) :: (natsD b ++ rst) from rfl, enR_cons] at hl2
      cases hl2
      unfold lb0_p_escaped2
      rw [e_tgt]
      refine ⟨rfl, ?_⟩
      simp only [setAll, List.set_cons_succ, List.set_cons_zero]
      simp!
      refine ⟨(by dsimp!), .int (o : Nat), rfl, rfl, .inl ⟨o, rfl, ho o (by rw [hab]; simp), rfl, ?_⟩⟩
      simp!
      exact hN4 _ _ ⟨rfl, a ++ [o], b, _, _, by rw [hab]; simp, by simp, rfl⟩
    | nil =>
      rw [List.append_nil] at hab
      subst hab
      rcases k with ⟨rfl, _⟩ | ⟨d2, r2, rfl, hd2, k⟩
      · cases hl2
      · rw [show natsD [] ++ (d2 :: r2) = d2 :: r2 from rfl, enR_cons] at hl2
        cases hl2
        unfold lb0_p_escaped2
        rw [e_tgt]
        refine ⟨rfl, ?_⟩
        simp only [setAll, List.set_cons_succ, List.set_cons_zero]
        simp!
        have gd : ∀ d ∈ oddL, Gr d := by
          simp only [oddL, List.forall_mem_cons]
          exact ⟨trivial, trivial, trivial, trivial, trivial, trivial, gr_ls.mpr fun _ h => (nomatch h), gr_tp.mpr fun d h => by rw [List.mem_singleton.mp h]; exact trivial, fun _ h => nomatch h⟩
        refine ⟨fun d hd => by rw [List.mem_singleton.mp hd]; exact gd _ hd2, d2, rfl, rfl, .inr ⟨hd2, rfl, ?_⟩⟩
        simp! [e_raise, endG_rz]
        exact ⟨fun d hd => by rw [hd]; exact trivial, k⟩
  · exact enD_enR _
end L3

namespace L3
open PySem PySem.Spec PyProof.Rows L2 Evl
open Classical
local macro_rules | `(tactic| simp!) => `(tactic| try simp only [↓e_while, ↓e_var, ↓e_c, ↓e_op, ↓e_nil, ↓e_cons, ↓e_tup, ↓e_lst, ↓e_lstC, ↓e_tru, ↓e_qnot, ↓e_qand, ↓e_qor, ↓e_qyes, ↓e_if, ↓e_not, ↓e_and, ↓e_or, ↓e_neg, ↓e_chain, ↓e_call, ↓e_no, ↓e_part, ↓e_sl, ↓e_slC, ↓e_fn, ↓e_fn0, ↓e_fnK, ↓e_m0, ↓e_m, ↓e_frz, ↓e_fz, ↓e_app, ↓e_lc, ↓e_esc, ↓e_next, ↓e_seq, ↓e_ret, ↓e_retN, ↓e_drop, ↓e_set, ↓e_ifS, ↓e_brk, ↓e_cnt, ↓e_par, ↓e_aug, ↓e_setIx, ↓e_for, ↓e_unp, ↓e_nm, ↓e_tgt, ↓e_iLst, ↓e_iTp, ↓e_iStr, ↓e_iR1, ↓isR1_s, ↓e_iR2, ↓isR2_s, ↓e_iEn, ↓isEn_s, ↓e_iEnS, ↓isEnS_s, ↓r_addI, ↓r_addS, ↓r_addT, ↓r_addL, ↓r_iaddI, ↓r_iaddS, ↓r_sub, ↓r_mulI, ↓r_mulL, ↓r_mod, ↓r_fdiv, ↓r_pow, ↓r_ordI, ↓r_ordS, ↓r_is, ↓r_inS, ↓r_ixS, ↓r_ixL, ↓r_ixR, ↓r_ixT, ↓r_ixC, ↓r_slS, ↓r_slT, ↓r_slL, ↓r_slR, ↓r_lenS, ↓r_lenL, ↓r_lenT, ↓r_lenR, ↓r_abs, ↓r_max, ↓r_min, ↓r_intI, ↓r_intB, ↓r_ord, ↓r_listL, ↓r_listT, ↓r_tupL, ↓r_tupT, ↓r_split, ↓r_part, ↓r_join, ↓r_joinC, ↓r_starts, ↓r_ends, ↓r_lower, ↓r_upper, ↓r_rfind, ↓r_index, ↓r_all, ↓r_any, ↓r_sum, ↓r_hex, ↓r_isi, ↓r_eqS, ↓r_neS, ↓r_eqI, ↓r_neI, ↓r_eqB, ↓r_neB, ↓r_eqL, ↓r_neL, ↓r_eqL0, ↓r_neL0, ↓t_s, ↓r_eq00, ↓r_ne00, ↓gets_s, ↓gets_n, ↓onS_s, ↓onI_s, ↓onC_s, ↓onB_s, ↓onL_s, ↓thenP_t, ↓ifI_t, ↓ifI_f, ifI_t, ifI_f, gets_s, gets_n, onS_s, onI_s, onC_s, onB_s, onL_s, thenP_t, gets_if, endG_rt, endG_rz, endG_nx, endN_rt, has_ls1, has_ls2, startG, wipeG, setAll, cut_from1, cut_init, atI_0, atI_1, atI_2, atI_last, List.map_cons, List.map_nil, List.cons_append, List.nil_append, List.append_nil, List.replicate, List.getElem?_cons_zero, List.getElem?_cons_succ, List.getElem?_nil, List.set_cons_zero, List.set_cons_succ, List.length_cons, List.length_nil, List.length_map, List.length_append, Nat.zero_add, Nat.sub_zero, Nat.reduceSub, Nat.reduceAdd, Nat.reduceLeDiff, List.isEmpty_cons, List.isEmpty_nil, true_and, and_true, if_true, if_false, reduceIte, Bool.not_true, Bool.not_false, Bool.not_not, Bool.false_eq_true, reduceCtorEq, List.forall_mem_cons, List.forall_mem_nil, implies_true, List.mem_singleton, decide_eq_true_eq, Bool.not_eq_true', decide_eq_false_iff_not, okM0_iff, okM1c, List.take_zero, List.take_succ_cons, gr_str_iff, gr_int_iff, gr_bl_iff, gr_non_iff, gr_lss_iff, gr_ls0_iff, lsOf_ls, lsOf_rl, lsOf_c, sqOf_ls, sqOf_rl, sqOf_tp, sqOf_c, lsOwn_ls, lsOwn_c, tpOf_tp, truD_ls, truD_rl, truD_tp, truD_bl, truD_int, truD_non, isNon, tyD, get_snoc, set_snoc, not_true_eq_false, not_false_eq_true, Option.some.injEq, Int.reduceLT, Int.reduceLE, Int.reduceNeg, Int.reducePow, Int.reduceToNat, and_self, atI_nat, inS_one, ↓e_tab, ↓r_isBl, ↓r_isiO, ↓e_prop, ↓e_mk, ↓e_mkL, ↓e_meth, ↓e_cval, ↓e_cm, ↓e_setF, ↓e_zp, ↓e_enSK, ↓e_par3, ↓r_find, ↓e_asg3, ↓e_dispC, ↓e_dtIx, ↓onDt_s, ↓e_get2, ↓e_tabG, ↓tabGI_s, ↓tabGI_n, ↓r_lstrip, ↓e_unpL])
local macro_rules | `(tactic| simp! [$xs,*]) => `(tactic| try simp only [↓e_while, ↓e_var, ↓e_c, ↓e_op, ↓e_nil, ↓e_cons, ↓e_tup, ↓e_lst, ↓e_lstC, ↓e_tru, ↓e_qnot, ↓e_qand, ↓e_qor, ↓e_qyes, ↓e_if, ↓e_not, ↓e_and, ↓e_or, ↓e_neg, ↓e_chain, ↓e_call, ↓e_no, ↓e_part, ↓e_sl, ↓e_slC, ↓e_fn, ↓e_fn0, ↓e_fnK, ↓e_m0, ↓e_m, ↓e_frz, ↓e_fz, ↓e_app, ↓e_lc, ↓e_esc, ↓e_next, ↓e_seq, ↓e_ret, ↓e_retN, ↓e_drop, ↓e_set, ↓e_ifS, ↓e_brk, ↓e_cnt, ↓e_par, ↓e_aug, ↓e_setIx, ↓e_for, ↓e_unp, ↓e_nm, ↓e_tgt, ↓e_iLst, ↓e_iTp, ↓e_iStr, ↓e_iR1, ↓isR1_s, ↓e_iR2, ↓isR2_s, ↓e_iEn, ↓isEn_s, ↓e_iEnS, ↓isEnS_s, ↓r_addI, ↓r_addS, ↓r_addT, ↓r_addL, ↓r_iaddI, ↓r_iaddS, ↓r_sub, ↓r_mulI, ↓r_mulL, ↓r_mod, ↓r_fdiv, ↓r_pow, ↓r_ordI, ↓r_ordS, ↓r_is, ↓r_inS, ↓r_ixS, ↓r_ixL, ↓r_ixR, ↓r_ixT, ↓r_ixC, ↓r_slS, ↓r_slT, ↓r_slL, ↓r_slR, ↓r_lenS, ↓r_lenL, ↓r_lenT, ↓r_lenR, ↓r_abs, ↓r_max, ↓r_min, ↓r_intI, ↓r_intB, ↓r_ord, ↓r_listL, ↓r_listT, ↓r_tupL, ↓r_tupT, ↓r_split, ↓r_part, ↓r_join, ↓r_joinC, ↓r_starts, ↓r_ends, ↓r_lower, ↓r_upper, ↓r_rfind, ↓r_index, ↓r_all, ↓r_any, ↓r_sum, ↓r_hex, ↓r_isi, ↓r_eqS, ↓r_neS, ↓r_eqI, ↓r_neI, ↓r_eqB, ↓r_neB, ↓r_eqL, ↓r_neL, ↓r_eqL0, ↓r_neL0, ↓t_s, ↓r_eq00, ↓r_ne00, ↓gets_s, ↓gets_n, ↓onS_s, ↓onI_s, ↓onC_s, ↓onB_s, ↓onL_s, ↓thenP_t, ↓ifI_t, ↓ifI_f, ifI_t, ifI_f, gets_s, gets_n, onS_s, onI_s, onC_s, onB_s, onL_s, thenP_t, gets_if, endG_rt, endG_rz, endG_nx, endN_rt, has_ls1, has_ls2, startG, wipeG, setAll, cut_from1, cut_init, atI_0, atI_1, atI_2, atI_last, List.map_cons, List.map_nil, List.cons_append, List.nil_append, List.append_nil, List.replicate, List.getElem?_cons_zero, List.getElem?_cons_succ, List.getElem?_nil, List.set_cons_zero, List.set_cons_succ, List.length_cons, List.length_nil, List.length_map, List.length_append, Nat.zero_add, Nat.sub_zero, Nat.reduceSub, Nat.reduceAdd, Nat.reduceLeDiff, List.isEmpty_cons, List.isEmpty_nil, true_and, and_true, if_true, if_false, reduceIte, Bool.not_true, Bool.not_false, Bool.not_not, Bool.false_eq_true, reduceCtorEq, List.forall_mem_cons, List.forall_mem_nil, implies_true, List.mem_singleton, decide_eq_true_eq, Bool.not_eq_true', decide_eq_false_iff_not, okM0_iff, okM1c, List.take_zero, List.take_succ_cons, gr_str_iff, gr_int_iff, gr_bl_iff, gr_non_iff, gr_lss_iff, gr_ls0_iff, lsOf_ls, lsOf_rl, lsOf_c, sqOf_ls, sqOf_rl, sqOf_tp, sqOf_c, lsOwn_ls, lsOwn_c, tpOf_tp, truD_ls, truD_rl, truD_tp, truD_bl, truD_int, truD_non, isNon, tyD, get_snoc, set_snoc, not_true_eq_false, not_false_eq_true, Option.some.injEq, Int.reduceLT, Int.reduceLE, Int.reduceNeg, Int.reducePow, Int.reduceToNat, and_self, atI_nat, inS_one, ↓e_tab, ↓r_isBl, ↓r_isiO, ↓e_prop, ↓e_mk, ↓e_mkL, ↓e_meth, ↓e_cval, ↓e_cm, ↓e_setF, ↓e_zp, ↓e_enSK, ↓e_par3, ↓r_find, ↓e_asg3, ↓e_dispC, ↓e_dtIx, ↓onDt_s, ↓e_get2, ↓e_tabG, ↓tabGI_s, ↓tabGI_n, ↓r_lstrip, ↓e_unpL, $xs,*])
local macro_rules | `(tactic| dsimp! [$xs,*]) => `(tactic| simp only [dSeq, dNext, dRet, dRetN, dDrop, dSet, dIfS, dBrk, dCnt, dPar, dAug, dSetIx, dFor, dEsc, dChain, dNever, iEn, iEnS, iEnSK, iZp, dUnp, dVar, dC, dOp, dSl, dSlC, dPart, dNo, dTup, dLst, dLstC, dIf, dNot, dAnd, dOr, rNegD, dCall, dM, dM0, dApp, dFrz, dFz, dLc, dFn, dFn0, dFnK, aCons, aNil,
    qTru, qNot, qAnd, qOr, qYes, iLst, iTp, iStr', iR1, iR2, Tgt.d, setAll, wipeG, rAddD, rSubD, rMulD, rModD, rFdivD, rPowD, rOrdD, rIAddD, rIsN', rIxD, rSlD, rLen, rAbs, rMax2, rMin2, rInt1, rOrd, rListOf, rListOfC, rTupleOf, rIsiD, rAllD, rAnyD, rSumD, rHex, mLower, mUpper, mRfind, mIndex,
    mSplit, mPart, mJoin, mStarts, mEnds, startG, endG, endN, endW, eqS_iff, eqI_iff, eqB_iff, eqL_iff, lsOwn_ls, lsOf_ls, lsOf_rl, sqOf_ls, sqOf_rl, sqOf_tp, tpOf_tp, truD_ls, truD_rl, truD_tp, truD_bl, truD_int, truD_non, cPure, cNew, cBagA, sPure, isNon, flatD, tyD,
    cut_from1, cut_init, atI_0, atI_1, atI_2, atI_last, List.map_cons, List.map_nil, List.cons_append, List.nil_append, List.replicate, List.getElem?_cons_zero, List.getElem?_cons_succ, List.getElem?_nil, List.set_cons_zero, List.set_cons_succ, Option.some.injEq, exists_eq_left', exists_eq_left, Option.some_or, Option.none_or, Option.or_some, List.length_cons, List.length_nil, List.length_map, Nat.sub_zero, Nat.reduceSub, Nat.reduceAdd, Nat.reduceLeDiff, List.isEmpty_cons, List.isEmpty_nil, true_and, and_true, if_true, if_false, reduceIte, Bool.not_true, Bool.not_false, Bool.false_eq_true, reduceCtorEq, List.forall_mem_cons, List.forall_mem_nil, implies_true, List.mem_singleton, forall_eq, decide_eq_true_eq, Bool.not_eq_true', decide_eq_false_iff_not, okM0_iff, List.take_zero, gr_str_iff, gr_int_iff, gr_bl_iff, gr_non_iff, gr_lss_iff, gr_ls0_iff, sqOf_1, lsOf_1, lsOwn_1, ixN_30, ixN_31, ixN_32, setIx_iff, setIx_iff', D.cel.injEq, not_true_eq_false, not_false_eq_true, $xs,*])
local macro_rules | `(tactic| dsimp!) => `(tactic| simp only [List.forall_mem_cons, List.forall_mem_nil, List.mem_singleton, forall_eq, implies_true, and_true, true_and, gr_str_iff, gr_int_iff, gr_bl_iff, gr_non_iff, gr_lss_iff, gr_ls0_iff, gr_opt_iff, gr_ints_iff, gr_rl_iff, gr_tpU_iff, gr_obU_iff, gr_cl_iff, gr_tp0_iff, gr_tpc_iff, gr_lsc_iff])
/-! ### the law's own reckoning -/
def sgn (o : Nat) : Tx := if (decide (32 ≤ o) && decide (o ≤ 126) && !(o == 37)) = true then [o] else []
def sp_law_sign : DSpec := fun ds M K _ => ∃ o : Nat, ds = [.int o] ∧ M = [] ∧ o < 256 ∧ K (.str (sgn o)) []
def rd_law_sign : DS :=
  (dSeq (dIfS (qOr (qNot (qTru (dChain rLeD rLeD (dC (.int 32)) (dVar 0) (dC (.int 126))))) (qTru (dOp (rEqD' false) (dVar 0) (dC (.int 37)))))
    (dRet (dC (.str [])))
    dNext)
    (dRet (dOp rIxD (dFn0 (cPure sp_law_signs) []) (dOp rSubD (dOp rSubD (dVar 0) (dC (.int 32))) (dCall rInt1 (aCons (dOp rGtD (dVar 0) (dC (.int 37))) aNil))))))
theorem allS_at : ∀ o : _root_.Fin 256, (decide (32 ≤ o.val) && decide (o.val ≤ 126) && !(o.val == 37)) = true → allS[o.val - 32 - (if 37 < o.val then 1 else 0)]? = some o.val := by decide +kernel
theorem sem_law_sign (ds : List D) (M : MM) (K0 : Kd) (R0 : Kx) (h : sp_law_sign ds M K0 R0) : rd_law_sign (endG M.length K0 R0) (startG 1 ds) M := by
  obtain ⟨o, rfl, rfl, ho, k⟩ := h
  unfold rd_law_sign
  refine seq_g fun N hN => ?_
  simp only [dSeq, dNext, dRet, dRetN, dDrop, dSet, dIfS, dBrk, dCnt, dPar, dAug, dSetIx, dFor, dEsc, dChain, dNever, iEn, iEnS, iEnSK, iZp, dUnp, dVar, dC, dOp, dSl, dSlC, dPart, dNo, dTup, dLst, dLstC, dIf, dNot, dAnd, dOr, rNegD, dCall, dM, dM0, dApp, dFrz, dFz, dLc, dFn, dFn0, dFnK, aCons, aNil,
    qTru, qNot, qAnd, qOr, qYes, iLst, iTp, iStr', iR1, iR2, Tgt.d, setAll, wipeG, rAddD, rSubD, rMulD, rModD, rFdivD, rPowD, rOrdD, rIAddD, rIsN', rIxD, rSlD, rLen, rAbs, rMax2, rMin2, rInt1, rOrd, rListOf, rListOfC, rTupleOf, rIsiD, rAllD, rAnyD, rSumD, rHex, mLower, mUpper, mRfind, mIndex,
    mSplit, mPart, mJoin, mStarts, mEnds, startG, endG, endN, endW, eqS_iff, eqI_iff, eqB_iff, eqL_iff, lsOwn_ls, lsOf_ls, lsOf_rl, sqOf_ls, sqOf_rl, sqOf_tp, tpOf_tp, truD_ls, truD_rl, truD_tp, truD_bl, truD_int, truD_non, cPure, cNew, cBagA, sPure, isNon, flatD, tyD,
    cut_from1, cut_init, atI_0, atI_1, atI_2, atI_last, List.map_cons, List.map_nil, List.cons_append, List.nil_append, List.replicate, List.getElem?_cons_zero, List.getElem?_cons_succ, List.getElem?_nil, List.set_cons_zero, List.set_cons_succ, Option.some.injEq, exists_eq_left', exists_eq_left, Option.some_or, Option.none_or, Option.or_some, List.length_cons, List.length_nil, List.length_map, Nat.sub_zero, Nat.reduceSub, Nat.reduceAdd, Nat.reduceLeDiff, List.isEmpty_cons, List.isEmpty_nil, true_and, and_true, if_true, if_false, reduceIte, Bool.not_true, Bool.not_false, Bool.false_eq_true, reduceCtorEq, List.forall_mem_cons, List.forall_mem_nil, implies_true, List.mem_singleton, forall_eq, decide_eq_true_eq, Bool.not_eq_true', decide_eq_false_iff_not, okM0_iff, List.take_zero, gr_str_iff, gr_int_iff, gr_bl_iff, gr_non_iff, gr_lss_iff, gr_ls0_iff, sqOf_1, lsOf_1, lsOwn_1, ixN_30, ixN_31, ixN_32, setIx_iff, setIx_iff', D.cel.injEq, not_true_eq_false, not_false_eq_true]
  refine ⟨_, rfl, ?_⟩
  by_cases c1 : 32 ≤ o
  · rw [decide_eq_true (show (32 : Int) ≤ (o : Int) by omega), if_pos rfl]
    by_cases c2 : o ≤ 126
    · rw [if_neg (by omega)]
      by_cases c3 : o = 37
      · rw [if_pos (by omega)]
        have e : sgn o = [] := by rw [c3]; rfl
        rwa [e] at k
      · rw [if_neg (by omega), hN]
        have hb : (decide (32 ≤ o) && decide (o ≤ 126) && !(o == 37)) = true := by simp [c1, c2, c3]
        have e : sgn o = [o] := by unfold sgn; rw [if_pos hb]
        rw [e] at k
        have hat := allS_at ⟨o, ho⟩ hb
        simp only [dSeq, dNext, dRet, dRetN, dDrop, dSet, dIfS, dBrk, dCnt, dPar, dAug, dSetIx, dFor, dEsc, dChain, dNever, iEn, iEnS, iEnSK, iZp, dUnp, dVar, dC, dOp, dSl, dSlC, dPart, dNo, dTup, dLst, dLstC, dIf, dNot, dAnd, dOr, rNegD, dCall, dM, dM0, dApp, dFrz, dFz, dLc, dFn, dFn0, dFnK, aCons, aNil,
    qTru, qNot, qAnd, qOr, qYes, iLst, iTp, iStr', iR1, iR2, Tgt.d, setAll, wipeG, rAddD, rSubD, rMulD, rModD, rFdivD, rPowD, rOrdD, rIAddD, rIsN', rIxD, rSlD, rLen, rAbs, rMax2, rMin2, rInt1, rOrd, rListOf, rListOfC, rTupleOf, rIsiD, rAllD, rAnyD, rSumD, rHex, mLower, mUpper, mRfind, mIndex,
    mSplit, mPart, mJoin, mStarts, mEnds, startG, endG, endN, endW, eqS_iff, eqI_iff, eqB_iff, eqL_iff, lsOwn_ls, lsOf_ls, lsOf_rl, sqOf_ls, sqOf_rl, sqOf_tp, tpOf_tp, truD_ls, truD_rl, truD_tp, truD_bl, truD_int, truD_non, cPure, cNew, cBagA, sPure, isNon, flatD, tyD,
    cut_from1, cut_init, atI_0, atI_1, atI_2, atI_last, List.map_cons, List.map_nil, List.cons_append, List.nil_append, List.replicate, List.getElem?_cons_zero, List.getElem?_cons_succ, List.getElem?_nil, List.set_cons_zero, List.set_cons_succ, Option.some.injEq, exists_eq_left', exists_eq_left, Option.some_or, Option.none_or, Option.or_some, List.length_cons, List.length_nil, List.length_map, Nat.sub_zero, Nat.reduceSub, Nat.reduceAdd, Nat.reduceLeDiff, List.isEmpty_cons, List.isEmpty_nil, true_and, and_true, if_true, if_false, reduceIte, Bool.not_true, Bool.not_false, Bool.false_eq_true, reduceCtorEq, List.forall_mem_cons, List.forall_mem_nil, implies_true, List.mem_singleton, forall_eq, decide_eq_true_eq, Bool.not_eq_true', decide_eq_false_iff_not, okM0_iff, List.take_zero, gr_str_iff, gr_int_iff, gr_bl_iff, gr_non_iff, gr_lss_iff, gr_ls0_iff, sqOf_1, lsOf_1, lsOwn_1, ixN_30, ixN_31, ixN_32, setIx_iff, setIx_iff', D.cel.injEq, not_true_eq_false, not_false_eq_true]
        refine ⟨fun _ h => (nomatch h), rfl, rfl, rfl, ?_⟩
        refine ⟨by decide, o, ?_, k⟩
        rw [show ((o : Int) - 32 - (if (37 : Int) < (o : Int) then 1 else 0)) = ((o - 32 - (if 37 < o then 1 else 0) : Nat) : Int) by split <;> split <;> omega, atI_nat]
        exact hat
    · rw [if_pos (by omega)]
      have e : sgn o = [] := by unfold sgn; rw [if_neg (by simp [c2])]
      rwa [e] at k
  · rw [decide_eq_false (show ¬ (32 : Int) ≤ (o : Int) by omega), if_neg (by decide)]
    have e : sgn o = [] := by unfold sgn; rw [if_neg (by simp [c1])]
    rwa [e] at k
theorem sgn_mem : ∀ o : _root_.Fin 256, o.val ∈ allS ↔ sgn o.val = [o.val] := by decide +kernel
theorem sgn_nil : ∀ o : _root_.Fin 256, ¬ o.val ∈ allS ↔ sgn o.val = [] := by decide +kernel
theorem plain_all : ∀ c ∈ plainS, c ∈ allS := by decide +kernel
def sp_law_due : DSpec := fun ds M K _ => ∃ (os : List Nat) (kp : Tx), ds = [.ls (natsD os), .str kp] ∧ M = [] ∧ os.length ≤ 1000 ∧ kp.length ≤ 200 ∧ (∀ o ∈ os, o < 256) ∧ (∀ c ∈ kp, c ∈ allS) ∧ K (.str (escK kp os)) []
def lb0_law_due : DS :=
  (dSeq (dSet 4 (dFn (cPure sp_law_sign) [] (aCons (dVar 3) aNil)))
    (dSeq (dSet 5 (dAnd (dOp (rInD true) (dVar 4) (dLst (aCons (dC (.str [])) (aCons (dC (.str [94])) aNil)))) (dOr (dOp (rInD false) (dVar 4) (dFn0 (cPure sp_law_plain) [])) (dOp (rInD false) (dVar 4) (dVar 1)))))
    (dSet 2 (dOp rAddD (dVar 2) (dIf (qTru (dVar 5)) (dVar 4) (dFn (cPure sp_law_escape) [] (aCons (dVar 3) (aCons (dC (.bl false)) aNil))))))))
def rd_law_due : DS :=
  (dSeq (dSet 2 (dC (.str [])))
    (dSeq (dFor (iLst (dVar 0)) (Tgt.nm 3) lb0_law_due)
    (dRet (dVar 2))))
theorem sem_law_due (ds : List D) (M : MM) (K0 : Kd) (R0 : Kx) (h : sp_law_due ds M K0 R0) : rd_law_due (endG M.length K0 R0) (startG 6 ds) M := by
  obtain ⟨os, kp, rfl, rfl, hl, hk, ho, hs, k⟩ := h
  have k : K0 (.str (escs (plainS ++ kp) os)) [] := k
  obtain ⟨ST, eST⟩ : ∃ s, s = plainS ++ kp := ⟨_, rfl⟩
  have mST : ∀ c, c ∈ ST ↔ c ∈ plainS ∨ c ∈ kp := fun c => by rw [eST]; exact List.mem_append
  rw [← eST] at k
  clear eST
  have e0 : escs ST [] = [] := rfl
  unfold rd_law_due
  simp!
  refine for_indL (P := fun a b Γ M => M = [] ∧ ∃ o3 o4 o5 : Option D, Γ = [some (.ls (natsD os)), some (.str kp), some (.str (escs ST a)), o3, o4, o5]) os ?_ ?_ ⟨rfl, none, none, none, rfl⟩
  · rintro Γ M ⟨rfl, o3, o4, o5, rfl⟩
    refine ⟨trivial, ?_⟩
    simp!
    exact k
  · rintro a x b Γ M N hab hN ⟨rfl, o3, o4, o5, rfl⟩
    refine ⟨trivial, ?_⟩
    have hx : x < 256 := ho x (by rw [← hab]; simp)
    have hal : a.length ≤ 1000 := by
      have := congrArg List.length hab
      rw [List.length_append, List.length_cons] at this
      omega
    have hel := escs_len ST a
    have e1 : escs ST (a ++ [x]) = escs ST a ++ escC ST x := by unfold escs; simp
    have hN' : ∀ o3 o4 o5, N [some (.ls (natsD os)), some (.str kp), some (.str (escs ST a ++ escC ST x)), o3, o4, o5] [] := fun o3 o4 o5 => hN _ _ ⟨rfl, o3, o4, o5, by rw [e1]⟩
    have hh : (hexT x).length = 2 := rfl
    have lE : ¬ (x ∈ ST ∧ x ≠ 94) → escC ST x = 94 :: hexT x := fun z => if_neg z
    have lS : (x ∈ ST ∧ x ≠ 94) → escC ST x = [x] := fun z => if_pos z
    clear hN hab
    unfold lb0_law_due
    simp! [e_nm]
    refine ⟨(by dsimp!), x, rfl, rfl, hx, rfl, ?_⟩
    by_cases hm : x ∈ allS
    · have e2 := (sgn_mem ⟨x, hx⟩).mp hm
      have e2 : sgn x = [x] := e2
      rw [e2]
      simp!
      refine inL_strs (l := [[], [94]]) rfl ?_ (fun _ h => nomatch h)
      by_cases c1 : x = 94
      · have c2 : ¬ (x ∈ ST ∧ x ≠ 94) := fun z => z.2 c1
        have f := hN' (some (.int (x : Nat))) (some (.str [x])) (some (.bl false))
        rw [lE c2] at f
        rw [show (if true = true then !decide ([x] ∈ ([[], [94]] : List Tx)) else decide ([x] ∈ ([[], [94]] : List Tx))) = false by simp [c1]]
        simp!
        refine ⟨(by dsimp!), x, false, rfl, rfl, hx, rfl, ?_⟩
        simp!
        exact ⟨by omega, f⟩
      · rw [show (if true = true then !decide ([x] ∈ ([[], [94]] : List Tx)) else decide ([x] ∈ ([[], [94]] : List Tx))) = true by simp [c1]]
        simp!
        refine ⟨fun _ h => (nomatch h), rfl, rfl, ?_⟩
        simp!
        have fS : (x ∈ ST ∧ x ≠ 94) → ∀ o5, N [some (.ls (natsD os)), some (.str kp), some (.str (escs ST a ++ [x])), some (.int (x : Nat)), some (.str [x]), o5] [] := fun z o5 => by
          have f := hN' (some (.int (x : Nat))) (some (.str [x])) o5
          rwa [lS z] at f
        refine ifI_i (fun c3 => ?_) fun c3 => ?_
        · have f := fS ⟨(mST x).mpr (.inl c3), c1⟩
          simp!
          rw [ifI_p c3]
          simp!
          exact ⟨by omega, f _⟩
        · simp!
          refine ifI_i (fun c4 => ?_) fun c4 => ?_
          · have f := fS ⟨(mST x).mpr (.inr c4), c1⟩
            simp!
            exact ⟨by omega, f _⟩
          · have c2 : ¬ (x ∈ ST ∧ x ≠ 94) := fun z => ((mST x).mp z.1).elim c3 c4
            have f : ∀ o5, N [some (.ls (natsD os)), some (.str kp), some (.str (escs ST a ++ 94 :: hexT x)), some (.int (x : Nat)), some (.str [x]), o5] [] := fun o5 => by
              have f := hN' (some (.int (x : Nat))) (some (.str [x])) o5
              rwa [lE c2] at f
            simp!
            refine ⟨(by dsimp!), x, false, rfl, rfl, hx, rfl, ?_⟩
            simp!
            exact ⟨by omega, f _⟩
    · have e2 := (sgn_nil ⟨x, hx⟩).mp hm
      have e2 : sgn x = [] := e2
      rw [e2]
      simp!
      refine inL_strs (l := [[], [94]]) rfl ?_ (fun _ h => nomatch h)
      rw [show (if true = true then !decide (([] : Tx) ∈ ([[], [94]] : List Tx)) else decide (([] : Tx) ∈ ([[], [94]] : List Tx))) = false by simp]
      have c2 : ¬ (x ∈ ST ∧ x ≠ 94) := fun z => hm (((mST x).mp z.1).elim (plain_all x) (hs x))
      have f := hN' (some (.int (x : Nat))) (some (.str [])) (some (.bl false))
      rw [lE c2] at f
      simp!
      refine ⟨(by dsimp!), x, false, rfl, rfl, hx, rfl, ?_⟩
      simp!
      exact ⟨by omega, f⟩
end L3

namespace L3
open PySem PySem.Spec PyProof.Rows L2 Evl
open Classical
local macro_rules | `(tactic| simp!) => `(tactic| try simp only [↓e_while, ↓e_var, ↓e_c, ↓e_op, ↓e_nil, ↓e_cons, ↓e_tup, ↓e_lst, ↓e_lstC, ↓e_tru, ↓e_qnot, ↓e_qand, ↓e_qor, ↓e_qyes, ↓e_if, ↓e_not, ↓e_and, ↓e_or, ↓e_neg, ↓e_chain, ↓e_call, ↓e_no, ↓e_part, ↓e_sl, ↓e_slC, ↓e_fn, ↓e_fn0, ↓e_fnK, ↓e_m0, ↓e_m, ↓e_frz, ↓e_fz, ↓e_app, ↓e_lc, ↓e_esc, ↓e_next, ↓e_seq, ↓e_ret, ↓e_retN, ↓e_drop, ↓e_set, ↓e_ifS, ↓e_brk, ↓e_cnt, ↓e_par, ↓e_aug, ↓e_setIx, ↓e_for, ↓e_unp, ↓e_nm, ↓e_tgt, ↓e_iLst, ↓e_iTp, ↓e_iStr, ↓e_iR1, ↓isR1_s, ↓e_iR2, ↓isR2_s, ↓e_iEn, ↓isEn_s, ↓e_iEnS, ↓isEnS_s, ↓r_addI, ↓r_addS, ↓r_addT, ↓r_addL, ↓r_iaddI, ↓r_iaddS, ↓r_sub, ↓r_mulI, ↓r_mulL, ↓r_mod, ↓r_fdiv, ↓r_pow, ↓r_ordI, ↓r_ordS, ↓r_is, ↓r_inS, ↓r_ixS, ↓r_ixL, ↓r_ixR, ↓r_ixT, ↓r_ixC, ↓r_slS, ↓r_slT, ↓r_slL, ↓r_slR, ↓r_lenS, ↓r_lenL, ↓r_lenT, ↓r_lenR, ↓r_abs, ↓r_max, ↓r_min, ↓r_intI, ↓r_intB, ↓r_ord, ↓r_listL, ↓r_listT, ↓r_tupL, ↓r_tupT, ↓r_split, ↓r_part, ↓r_join, ↓r_joinC, ↓r_starts, ↓r_ends, ↓r_lower, ↓r_upper, ↓r_rfind, ↓r_index, ↓r_all, ↓r_any, ↓r_sum, ↓r_hex, ↓r_isi, ↓r_eqS, ↓r_neS, ↓r_eqI, ↓r_neI, ↓r_eqB, ↓r_neB, ↓r_eqL, ↓r_neL, ↓r_eqL0, ↓r_neL0, ↓t_s, ↓r_eq00, ↓r_ne00, ↓gets_s, ↓gets_n, ↓onS_s, ↓onI_s, ↓onC_s, ↓onB_s, ↓onL_s, ↓thenP_t, ↓ifI_t, ↓ifI_f, ifI_t, ifI_f, gets_s, gets_n, onS_s, onI_s, onC_s, onB_s, onL_s, thenP_t, gets_if, endG_rt, endG_rz, endG_nx, endN_rt, has_ls1, has_ls2, startG, wipeG, setAll, cut_from1, cut_init, atI_0, atI_1, atI_2, atI_last, List.map_cons, List.map_nil, List.cons_append, List.nil_append, List.append_nil, List.replicate, List.getElem?_cons_zero, List.getElem?_cons_succ, List.getElem?_nil, List.set_cons_zero, List.set_cons_succ, List.length_cons, List.length_nil, List.length_map, List.length_append, Nat.zero_add, Nat.sub_zero, Nat.reduceSub, Nat.reduceAdd, Nat.reduceLeDiff, List.isEmpty_cons, List.isEmpty_nil, true_and, and_true, if_true, if_false, reduceIte, Bool.not_true, Bool.not_false, Bool.not_not, Bool.false_eq_true, reduceCtorEq, List.forall_mem_cons, List.forall_mem_nil, implies_true, List.mem_singleton, decide_eq_true_eq, Bool.not_eq_true', decide_eq_false_iff_not, okM0_iff, okM1c, List.take_zero, List.take_succ_cons, gr_str_iff, gr_int_iff, gr_bl_iff, gr_non_iff, gr_lss_iff, gr_ls0_iff, lsOf_ls, lsOf_rl, lsOf_c, sqOf_ls, sqOf_rl, sqOf_tp, sqOf_c, lsOwn_ls, lsOwn_c, tpOf_tp, truD_ls, truD_rl, truD_tp, truD_bl, truD_int, truD_non, isNon, tyD, get_snoc, set_snoc, not_true_eq_false, not_false_eq_true, Option.some.injEq, Int.reduceLT, Int.reduceLE, Int.reduceNeg, Int.reducePow, Int.reduceToNat, and_self, atI_nat, inS_one, ↓e_tab, ↓r_isBl, ↓r_isiO, ↓e_prop, ↓e_mk, ↓e_mkL, ↓e_meth, ↓e_cval, ↓e_cm, ↓e_setF, ↓e_zp, ↓e_enSK, ↓e_par3, ↓r_find, ↓e_asg3, ↓e_dispC, ↓e_dtIx, ↓onDt_s, ↓e_get2, ↓e_tabG, ↓tabGI_s, ↓tabGI_n, ↓r_lstrip, ↓e_unpL])
local macro_rules | `(tactic| simp! [$xs,*]) => `(tactic| try simp only [↓e_while, ↓e_var, ↓e_c, ↓e_op, ↓e_nil, ↓e_cons, ↓e_tup, ↓e_lst, ↓e_lstC, ↓e_tru, ↓e_qnot, ↓e_qand, ↓e_qor, ↓e_qyes, ↓e_if, ↓e_not, ↓e_and, ↓e_or, ↓e_neg, ↓e_chain, ↓e_call, ↓e_no, ↓e_part, ↓e_sl, ↓e_slC, ↓e_fn, ↓e_fn0, ↓e_fnK, ↓e_m0, ↓e_m, ↓e_frz, ↓e_fz, ↓e_app, ↓e_lc, ↓e_esc, ↓e_next, ↓e_seq, ↓e_ret, ↓e_retN, ↓e_drop, ↓e_set, ↓e_ifS, ↓e_brk, ↓e_cnt, ↓e_par, ↓e_aug, ↓e_setIx, ↓e_for, ↓e_unp, ↓e_nm, ↓e_tgt, ↓e_iLst, ↓e_iTp, ↓e_iStr, ↓e_iR1, ↓isR1_s, ↓e_iR2, ↓isR2_s, ↓e_iEn, ↓isEn_s, ↓e_iEnS, ↓isEnS_s, ↓r_addI, ↓r_addS, ↓r_addT, ↓r_addL, ↓r_iaddI, ↓r_iaddS, ↓r_sub, ↓r_mulI, ↓r_mulL, ↓r_mod, ↓r_fdiv, ↓r_pow, ↓r_ordI, ↓r_ordS, ↓r_is, ↓r_inS, ↓r_ixS, ↓r_ixL, ↓r_ixR, ↓r_ixT, ↓r_ixC, ↓r_slS, ↓r_slT, ↓r_slL, ↓r_slR, ↓r_lenS, ↓r_lenL, ↓r_lenT, ↓r_lenR, ↓r_abs, ↓r_max, ↓r_min, ↓r_intI, ↓r_intB, ↓r_ord, ↓r_listL, ↓r_listT, ↓r_tupL, ↓r_tupT, ↓r_split, ↓r_part, ↓r_join, ↓r_joinC, ↓r_starts, ↓r_ends, ↓r_lower, ↓r_upper, ↓r_rfind, ↓r_index, ↓r_all, ↓r_any, ↓r_sum, ↓r_hex, ↓r_isi, ↓r_eqS, ↓r_neS, ↓r_eqI, ↓r_neI, ↓r_eqB, ↓r_neB, ↓r_eqL, ↓r_neL, ↓r_eqL0, ↓r_neL0, ↓t_s, ↓r_eq00, ↓r_ne00, ↓gets_s, ↓gets_n, ↓onS_s, ↓onI_s, ↓onC_s, ↓onB_s, ↓onL_s, ↓thenP_t, ↓ifI_t, ↓ifI_f, ifI_t, ifI_f, gets_s, gets_n, onS_s, onI_s, onC_s, onB_s, onL_s, thenP_t, gets_if, endG_rt, endG_rz, endG_nx, endN_rt, has_ls1, has_ls2, startG, wipeG, setAll, cut_from1, cut_init, atI_0, atI_1, atI_2, atI_last, List.map_cons, List.map_nil, List.cons_append, List.nil_append, List.append_nil, List.replicate, List.getElem?_cons_zero, List.getElem?_cons_succ, List.getElem?_nil, List.set_cons_zero, List.set_cons_succ, List.length_cons, List.length_nil, List.length_map, List.length_append, Nat.zero_add, Nat.sub_zero, Nat.reduceSub, Nat.reduceAdd, Nat.reduceLeDiff, List.isEmpty_cons, List.isEmpty_nil, true_and, and_true, if_true, if_false, reduceIte, Bool.not_true, Bool.not_false, Bool.not_not, Bool.false_eq_true, reduceCtorEq, List.forall_mem_cons, List.forall_mem_nil, implies_true, List.mem_singleton, decide_eq_true_eq, Bool.not_eq_true', decide_eq_false_iff_not, okM0_iff, okM1c, List.take_zero, List.take_succ_cons, gr_str_iff, gr_int_iff, gr_bl_iff, gr_non_iff, gr_lss_iff, gr_ls0_iff, lsOf_ls, lsOf_rl, lsOf_c, sqOf_ls, sqOf_rl, sqOf_tp, sqOf_c, lsOwn_ls, lsOwn_c, tpOf_tp, truD_ls, truD_rl, truD_tp, truD_bl, truD_int, truD_non, isNon, tyD, get_snoc, set_snoc, not_true_eq_false, not_false_eq_true, Option.some.injEq, Int.reduceLT, Int.reduceLE, Int.reduceNeg, Int.reducePow, Int.reduceToNat, and_self, atI_nat, inS_one, ↓e_tab, ↓r_isBl, ↓r_isiO, ↓e_prop, ↓e_mk, ↓e_mkL, ↓e_meth, ↓e_cval, ↓e_cm, ↓e_setF, ↓e_zp, ↓e_enSK, ↓e_par3, ↓r_find, ↓e_asg3, ↓e_dispC, ↓e_dtIx, ↓onDt_s, ↓e_get2, ↓e_tabG, ↓tabGI_s, ↓tabGI_n, ↓r_lstrip, ↓e_unpL, $xs,*])
/-! ### a try -/
theorem try_g {c : Str} {i : Nat} {tb : DS} {ts : Addr → Addr → DS} {E : DEnds} {Γ : G} {M : MM} (h : ∀ Z, Z = (fun x Γ' M' => x.c = c ∧ x.ns ≠ [] ∧ ∀ a dd, ts a dd (sEnds i E) (Γ'.set i (some (.ex a (some dd) x.c x.ns x.l))) M') → tb { E with rz := Z } Γ M) : dTry c i tb ts E Γ M := h _ rfl
theorem e_xf {a dd : Addr} {c f : Str} {t : DE} {Γ : G} {M : MM} {K : Kd} {R : Rx} : dXf a dd c f t Γ M K R = t Γ M (fun d M1 => match d with
  | .ex a' (some d') c' ns l => a' = a ∧ d' = dd ∧ c' = c ∧ ∃ v, lkD f ns l = some v ∧ K v M1
  | _ => False) R := rfl
theorem sEnds_rt {i : Nat} {E : DEnds} : (sEnds i E).rt = E.rt := rfl
def gD_p_escaped2_Kkeep : List D → List D → List D := fun ds es => ds ++ es
abbrev dv_p_escaped2_D1 : List D := [.str []]
/-- what the law's helper tells -/
def sp_law_outcome : DSpec := fun ds M K _ => ∃ (os : List Nat) (rst : List D) (keep : Tx), ds = [.ls (natsD os ++ rst), .str keep] ∧ M = [] ∧ os.length + rst.length ≤ 10000 ∧ keep.length ≤ 200 ∧ (∀ o ∈ os, o < 256) ∧ (∀ d ∈ rst, Gr d) ∧
  ((rst = [] ∧ K (.tp [.str [116, 111, 108, 100], .str (escK keep os)]) []) ∨ ∃ d r, rst = d :: r ∧ d ∈ oddL ∧ K (.tp [.str [119, 114, 111, 110, 103], .int (os.length : Nat)]) [])
def rd_law_outcome : DS :=
  (dTry "NoOctet" 2 (dRet (dTup (aCons (dC (.str [116, 111, 108, 100])) (aCons (dFnK (cPure sp_p_escaped2) gD_p_escaped2_Kkeep 1 1 (aCons (dVar 0) aNil) (aCons (dVar 1) aNil)) aNil)))) (fun a dd => (dRet (dTup (aCons (dC (.str [119, 114, 111, 110, 103])) (aCons (dXf a dd "NoOctet" "place" (dVar 2)) aNil))))))
theorem sem_law_outcome (ds : List D) (M : MM) (K0 : Kd) (R0 : Kx) (h : sp_law_outcome ds M K0 R0) : rd_law_outcome (endG M.length K0 R0) (startG 3 ds) M := by
  obtain ⟨os, rst, keep, rfl, rfl, hl, hk, ho, hg, k⟩ := h
  have gl : ∀ d ∈ natsD os ++ rst, Gr d := fun d hd => (List.mem_append.mp hd).elim (gr_nats os d) (hg d)
  unfold rd_law_outcome
  refine try_g fun Z hZ => ?_
  simp!
  unfold gD_p_escaped2_Kkeep
  refine ⟨List.forall_mem_cons.mpr ⟨gr_ls.mpr gl, fun d hd => by rw [List.mem_singleton.mp hd]; exact trivial⟩, os, rst, keep, rfl, rfl, hl, hk, ho, ?_⟩
  rcases k with ⟨e, k⟩ | ⟨d, r, e, hd, k⟩
  · refine .inl ⟨e, rfl, ?_⟩
    simp!
    exact ⟨gr_tp.mpr fun d hd => by
      simp only [List.mem_cons, List.not_mem_nil, or_false] at hd
      rcases hd with rfl | rfl <;> trivial, k⟩
  · refine .inr ⟨d, r, e, hd, rfl, ?_⟩
    rw [hZ]
    refine ⟨rfl, by simp, fun a dd => ?_⟩
    simp! [e_xf, sEnds_rt]
    exact ⟨_, if_pos rfl, gr_tp.mpr fun d hd => by
      simp only [List.mem_cons, List.not_mem_nil, or_false] at hd
      rcases hd with rfl | rfl <;> trivial, k⟩
end L3

namespace L3
open PySem PySem.Spec PyProof.Rows L2 Evl
open Classical
local macro_rules | `(tactic| simp!) => `(tactic| try simp only [↓e_while, ↓e_var, ↓e_c, ↓e_op, ↓e_nil, ↓e_cons, ↓e_tup, ↓e_lst, ↓e_lstC, ↓e_tru, ↓e_qnot, ↓e_qand, ↓e_qor, ↓e_qyes, ↓e_if, ↓e_not, ↓e_and, ↓e_or, ↓e_neg, ↓e_chain, ↓e_call, ↓e_no, ↓e_part, ↓e_sl, ↓e_slC, ↓e_fn, ↓e_fn0, ↓e_fnK, ↓e_m0, ↓e_m, ↓e_frz, ↓e_fz, ↓e_app, ↓e_lc, ↓e_esc, ↓e_next, ↓e_seq, ↓e_ret, ↓e_retN, ↓e_drop, ↓e_set, ↓e_ifS, ↓e_brk, ↓e_cnt, ↓e_par, ↓e_aug, ↓e_setIx, ↓e_for, ↓e_unp, ↓e_nm, ↓e_tgt, ↓e_iLst, ↓e_iTp, ↓e_iStr, ↓e_iR1, ↓isR1_s, ↓e_iR2, ↓isR2_s, ↓e_iEn, ↓isEn_s, ↓e_iEnS, ↓isEnS_s, ↓r_addI, ↓r_addS, ↓r_addT, ↓r_addL, ↓r_iaddI, ↓r_iaddS, ↓r_sub, ↓r_mulI, ↓r_mulL, ↓r_mod, ↓r_fdiv, ↓r_pow, ↓r_ordI, ↓r_ordS, ↓r_is, ↓r_inS, ↓r_ixS, ↓r_ixL, ↓r_ixR, ↓r_ixT, ↓r_ixC, ↓r_slS, ↓r_slT, ↓r_slL, ↓r_slR, ↓r_lenS, ↓r_lenL, ↓r_lenT, ↓r_lenR, ↓r_abs, ↓r_max, ↓r_min, ↓r_intI, ↓r_intB, ↓r_ord, ↓r_listL, ↓r_listT, ↓r_tupL, ↓r_tupT, ↓r_split, ↓r_part, ↓r_join, ↓r_joinC, ↓r_starts, ↓r_ends, ↓r_lower, ↓r_upper, ↓r_rfind, ↓r_index, ↓r_all, ↓r_any, ↓r_sum, ↓r_hex, ↓r_isi, ↓r_eqS, ↓r_neS, ↓r_eqI, ↓r_neI, ↓r_eqB, ↓r_neB, ↓r_eqL, ↓r_neL, ↓r_eqL0, ↓r_neL0, ↓t_s, ↓r_eq00, ↓r_ne00, ↓gets_s, ↓gets_n, ↓onS_s, ↓onI_s, ↓onC_s, ↓onB_s, ↓onL_s, ↓thenP_t, ↓ifI_t, ↓ifI_f, ifI_t, ifI_f, gets_s, gets_n, onS_s, onI_s, onC_s, onB_s, onL_s, thenP_t, gets_if, endG_rt, endG_rz, endG_nx, endN_rt, has_ls1, has_ls2, startG, wipeG, setAll, cut_from1, cut_init, atI_0, atI_1, atI_2, atI_last, List.map_cons, List.map_nil, List.cons_append, List.nil_append, List.append_nil, List.replicate, List.getElem?_cons_zero, List.getElem?_cons_succ, List.getElem?_nil, List.set_cons_zero, List.set_cons_succ, List.length_cons, List.length_nil, List.length_map, List.length_append, Nat.zero_add, Nat.sub_zero, Nat.reduceSub, Nat.reduceAdd, Nat.reduceLeDiff, List.isEmpty_cons, List.isEmpty_nil, true_and, and_true, if_true, if_false, reduceIte, Bool.not_true, Bool.not_false, Bool.not_not, Bool.false_eq_true, reduceCtorEq, List.forall_mem_cons, List.forall_mem_nil, implies_true, List.mem_singleton, decide_eq_true_eq, Bool.not_eq_true', decide_eq_false_iff_not, okM0_iff, okM1c, List.take_zero, List.take_succ_cons, gr_str_iff, gr_int_iff, gr_bl_iff, gr_non_iff, gr_lss_iff, gr_ls0_iff, lsOf_ls, lsOf_rl, lsOf_c, sqOf_ls, sqOf_rl, sqOf_tp, sqOf_c, lsOwn_ls, lsOwn_c, tpOf_tp, truD_ls, truD_rl, truD_tp, truD_bl, truD_int, truD_non, isNon, tyD, get_snoc, set_snoc, not_true_eq_false, not_false_eq_true, Option.some.injEq, Int.reduceLT, Int.reduceLE, Int.reduceNeg, Int.reducePow, Int.reduceToNat, and_self, atI_nat, inS_one, ↓e_tab, ↓r_isBl, ↓r_isiO, ↓e_prop, ↓e_mk, ↓e_mkL, ↓e_meth, ↓e_cval, ↓e_cm, ↓e_setF, ↓e_zp, ↓e_enSK, ↓e_par3, ↓r_find, ↓e_asg3, ↓e_dispC, ↓e_dtIx, ↓onDt_s, ↓e_get2, ↓e_tabG, ↓tabGI_s, ↓tabGI_n, ↓r_lstrip, ↓e_unpL])
local macro_rules | `(tactic| simp! [$xs,*]) => `(tactic| try simp only [↓e_while, ↓e_var, ↓e_c, ↓e_op, ↓e_nil, ↓e_cons, ↓e_tup, ↓e_lst, ↓e_lstC, ↓e_tru, ↓e_qnot, ↓e_qand, ↓e_qor, ↓e_qyes, ↓e_if, ↓e_not, ↓e_and, ↓e_or, ↓e_neg, ↓e_chain, ↓e_call, ↓e_no, ↓e_part, ↓e_sl, ↓e_slC, ↓e_fn, ↓e_fn0, ↓e_fnK, ↓e_m0, ↓e_m, ↓e_frz, ↓e_fz, ↓e_app, ↓e_lc, ↓e_esc, ↓e_next, ↓e_seq, ↓e_ret, ↓e_retN, ↓e_drop, ↓e_set, ↓e_ifS, ↓e_brk, ↓e_cnt, ↓e_par, ↓e_aug, ↓e_setIx, ↓e_for, ↓e_unp, ↓e_nm, ↓e_tgt, ↓e_iLst, ↓e_iTp, ↓e_iStr, ↓e_iR1, ↓isR1_s, ↓e_iR2, ↓isR2_s, ↓e_iEn, ↓isEn_s, ↓e_iEnS, ↓isEnS_s, ↓r_addI, ↓r_addS, ↓r_addT, ↓r_addL, ↓r_iaddI, ↓r_iaddS, ↓r_sub, ↓r_mulI, ↓r_mulL, ↓r_mod, ↓r_fdiv, ↓r_pow, ↓r_ordI, ↓r_ordS, ↓r_is, ↓r_inS, ↓r_ixS, ↓r_ixL, ↓r_ixR, ↓r_ixT, ↓r_ixC, ↓r_slS, ↓r_slT, ↓r_slL, ↓r_slR, ↓r_lenS, ↓r_lenL, ↓r_lenT, ↓r_lenR, ↓r_abs, ↓r_max, ↓r_min, ↓r_intI, ↓r_intB, ↓r_ord, ↓r_listL, ↓r_listT, ↓r_tupL, ↓r_tupT, ↓r_split, ↓r_part, ↓r_join, ↓r_joinC, ↓r_starts, ↓r_ends, ↓r_lower, ↓r_upper, ↓r_rfind, ↓r_index, ↓r_all, ↓r_any, ↓r_sum, ↓r_hex, ↓r_isi, ↓r_eqS, ↓r_neS, ↓r_eqI, ↓r_neI, ↓r_eqB, ↓r_neB, ↓r_eqL, ↓r_neL, ↓r_eqL0, ↓r_neL0, ↓t_s, ↓r_eq00, ↓r_ne00, ↓gets_s, ↓gets_n, ↓onS_s, ↓onI_s, ↓onC_s, ↓onB_s, ↓onL_s, ↓thenP_t, ↓ifI_t, ↓ifI_f, ifI_t, ifI_f, gets_s, gets_n, onS_s, onI_s, onC_s, onB_s, onL_s, thenP_t, gets_if, endG_rt, endG_rz, endG_nx, endN_rt, has_ls1, has_ls2, startG, wipeG, setAll, cut_from1, cut_init, atI_0, atI_1, atI_2, atI_last, List.map_cons, List.map_nil, List.cons_append, List.nil_append, List.append_nil, List.replicate, List.getElem?_cons_zero, List.getElem?_cons_succ, List.getElem?_nil, List.set_cons_zero, List.set_cons_succ, List.length_cons, List.length_nil, List.length_map, List.length_append, Nat.zero_add, Nat.sub_zero, Nat.reduceSub, Nat.reduceAdd, Nat.reduceLeDiff, List.isEmpty_cons, List.isEmpty_nil, true_and, and_true, if_true, if_false, reduceIte, Bool.not_true, Bool.not_false, Bool.not_not, Bool.false_eq_true, reduceCtorEq, List.forall_mem_cons, List.forall_mem_nil, implies_true, List.mem_singleton, decide_eq_true_eq, Bool.not_eq_true', decide_eq_false_iff_not, okM0_iff, okM1c, List.take_zero, List.take_succ_cons, gr_str_iff, gr_int_iff, gr_bl_iff, gr_non_iff, gr_lss_iff, gr_ls0_iff, lsOf_ls, lsOf_rl, lsOf_c, sqOf_ls, sqOf_rl, sqOf_tp, sqOf_c, lsOwn_ls, lsOwn_c, tpOf_tp, truD_ls, truD_rl, truD_tp, truD_bl, truD_int, truD_non, isNon, tyD, get_snoc, set_snoc, not_true_eq_false, not_false_eq_true, Option.some.injEq, Int.reduceLT, Int.reduceLE, Int.reduceNeg, Int.reducePow, Int.reduceToNat, and_self, atI_nat, inS_one, ↓e_tab, ↓r_isBl, ↓r_isiO, ↓e_prop, ↓e_mk, ↓e_mkL, ↓e_meth, ↓e_cval, ↓e_cm, ↓e_setF, ↓e_zp, ↓e_enSK, ↓e_par3, ↓r_find, ↓e_asg3, ↓e_dispC, ↓e_dtIx, ↓onDt_s, ↓e_get2, ↓e_tabG, ↓tabGI_s, ↓tabGI_n, ↓r_lstrip, ↓e_unpL, $xs,*])
/-! ### drawn octets, what repr shows of them -/
def OcOk (n : Nat) (os : List Nat) : Prop := os.length ≤ n ∧ ∀ o ∈ os, o < 256
def sp_law_octets : DSpec := fun ds M K _ => ∃ l : List D, ds = [.cel 0] ∧ M = [.ls l] ∧ BagA l ∧ ∀ os l', OcOk 12 os → BagA l' → K (.ls (natsD os)) [.ls l']
def lb0_law_octets : DS :=
  (dDrop (dApp (dVar 2) (dOp rIxD (dLst (aCons (dFn (cBagA 0 sp_law_take) [] (aCons (dVar 0) (aCons (dC (.int 256)) aNil))) (aCons (dCall rOrd (aCons (dOp rIxD (dVar 1) (dFn (cBagA 0 sp_law_take) [] (aCons (dVar 0) (aCons (dCall rLen (aCons (dVar 1) aNil)) aNil)))) aNil)) aNil))) (dFn (cBagA 0 sp_law_take) [] (aCons (dVar 0) (aCons (dC (.int 2)) aNil))))))
def rd_law_octets : DS :=
  (dSeq (dSet 1 (dFn0 (cPure sp_law_signs) []))
    (dSeq (dSet 2 (dLstC aNil))
    (dSeq (dFor (iR1 (aCons (dFn (cBagA 0 sp_law_take) [] (aCons (dVar 0) (aCons (dC (.int 13)) aNil))) aNil)) (Tgt.nm 3) lb0_law_octets)
    (dRet (dFrz 2)))))
theorem all_lt256 : ∀ c ∈ allS, c < 256 := by decide
theorem sem_law_octets (ds : List D) (M : MM) (K0 : Kd) (R0 : Kx) (h : sp_law_octets ds M K0 R0) : rd_law_octets (endG M.length K0 R0) (startG 4 ds) M := by
  obtain ⟨l, rfl, rfl, hb, k⟩ := h
  unfold rd_law_octets
  refine seq_g fun N hN => ?_
  simp!
  refine ⟨fun _ h => (nomatch h), rfl, rfl, rfl, ?_⟩
  simp!
  rw [hN]
  refine seq_g fun N2 hN2 => ?_
  simp!
  rw [hN2]
  refine seq_g fun N3 hN3 => ?_
  simp!
  refine take_callA rfl hb (by decide) (by decide) fun n l1 n0 n1 hb1 => ?_
  simp!
  refine ⟨⟨by omega, by omega⟩, ?_⟩
  refine for_indL (P := fun a b Γ M => ∃ l' os o3, Γ = [some (.cel 0), some (.str allS), some (.cel 1), o3] ∧ M = [.ls l', .ls (natsD os)] ∧ BagA l' ∧ os.length = a.length ∧ ∀ o ∈ os, o < 256) (List.range n.toNat) ?_ ?_ ⟨l1, [], none, rfl, rfl, hb1, rfl, fun _ h => (nomatch h)⟩
  · rintro Γ M ⟨l', os, o3, rfl, rfl, hb', hl, hp⟩
    refine ⟨trivial, ?_⟩
    rw [hN3]
    have hl2 : os.length ≤ 12 := by
      rw [hl, List.length_range]
      omega
    have k := k os l' ⟨hl2, hp⟩ hb'
    simp!
    exact ⟨gr_ls.mpr (gr_nats os), hb'.gr, k⟩
  · rintro a x b Γ M N' hab hN' ⟨l', os, o3, rfl, rfl, hb', hl, hp⟩
    refine ⟨trivial, ?_⟩
    have hal : a.length ≤ 100 := by
      have := congrArg List.length hab
      rw [List.length_append, List.length_cons, List.length_range] at this
      omega
    unfold lb0_law_octets
    simp! [e_nm]
    refine take_callA rfl hb' (by decide) (by decide) fun p l2 p0 p1 hb2 => ?_
    simp!
    refine take_callA rfl hb2 (by decide) (by decide) fun q l3 q0 q1 hb3 => ?_
    simp!
    refine pickG q0 q1 fun c hc => ?_
    simp!
    refine take_callA rfl hb3 (by decide) (by decide) fun r l4 r0 r1 hb4 => ?_
    have fin : ∀ o : Nat, o < 256 → os.length < 16777216 ∧ N' [some (.cel 0), some (.str allS), some (.cel 1), some (.int x)] [.ls l4, .ls (natsD os ++ [.int (o : Nat)])] := fun o ho =>
      ⟨by omega, hN' _ _ ⟨l4, os ++ [o], _, rfl, by simp, hb4, by simp [hl], fun z hz => by
        rcases List.mem_append.mp hz with q | q
        · exact hp z q
        · rw [List.mem_singleton.mp q]; exact ho⟩⟩
    refine pickL r0 (by simpa using r1) fun d hd => ?_
    simp only [List.mem_cons, List.not_mem_nil, or_false] at hd
    rcases hd with rfl | rfl
    · obtain ⟨pn, rfl⟩ : ∃ pn : Nat, p = pn := ⟨p.toNat, by omega⟩
      have g := fin pn (by omega)
      simp!
      refine ⟨by simpa using g.1, ?_⟩
      simp!
      exact g.2
    · have g := fin c (all_lt256 c hc)
      simp!
      refine ⟨by simpa using g.1, ?_⟩
      simp!
      exact g.2
def shN (os : List Nat) : Str := (toP 9 (.ls (natsD os))).shown
theorem tf_len : ∀ (ts : List Str) (k : Nat) (acc : Str), (textFrom k acc ts).length ≤ acc.length + (ts.map fun t => t.length + 2).sum
  | [], k, acc => Nat.le_refl _
  | t :: r, k, acc => by
    have h := tf_len r (k + 1) (acc ++ (if k > 0 then ", " else "" : String) ++ t)
    have e : (((if k > 0 then ", " else "" : String) : Str)).length ≤ 2 := by
      split
      · exact Nat.le_of_ble_eq_true rfl
      · exact Nat.zero_le _
    rw [strLen_append, strLen_append] at h
    rw [List.map_cons, List.sum_cons]
    show (textFrom (k + 1) (acc ++ (if k > 0 then ", " else "" : String) ++ t) r).length ≤ _
    omega
theorem nats_shown : ∀ os : List Nat, (∀ o ∈ os, o < 256) → ((PyData.shownAll (os.map fun o => PyData.int (o : Nat))).map fun t => t.length + 2).sum ≤ 15 * os.length ∧ PyData.showableAll (os.map fun o => PyData.int (o : Nat)) = true ∧ PyData.hasDictAll (os.map fun o => PyData.int (o : Nat)) = false
  | [], _ => ⟨Nat.zero_le _, by simp [PyData.showableAll], by simp [PyData.hasDictAll]⟩
  | o :: os, h => by
    obtain ⟨b1, b2, b3⟩ := nats_shown os fun q hq => h q (List.mem_cons_of_mem _ hq)
    have a1 := PyData.shown_int_le (i := (o : Nat)) (by have := h o List.mem_cons_self; omega)
    rw [List.map_cons]
    refine ⟨?_, by rw [PyData.showableAll, b2]; simp [PyData.showable]; exact (by decide +kernel : ∀ o : _root_.Fin 256, o.val.log2 < 1920) ⟨o, h o List.mem_cons_self⟩, by rw [PyData.hasDictAll, b3]; simp [PyData.hasDict]⟩
    rw [PyData.shownAll, List.map_cons, List.sum_cons, List.length_cons]
    omega
theorem repr_nats {os : List Nat} {M : MM} {K : Kd} (hl : os.length ≤ 100) (h : ∀ o ∈ os, o < 256) (k : K (.tx (shN os)) M) : rRepr [.ls (natsD os)] M K := by
  obtain ⟨a1, a2, a3⟩ := nats_shown os h
  have e : toP 9 (view M (.ls (natsD os))) = .list (os.map fun o => PyData.int (o : Nat)) := by
    show PyData.list ((natsD os).map (toP 8)) = _
    rw [List.map_map]
    rfl
  refine ⟨_, rfl, trivial, ?_, ?_, ?_, ?_, k⟩
  · show Pl 9 (.ls (natsD os))
    rw [pl_ls]
    intro d hd
    obtain ⟨o, _, rfl⟩ := List.mem_map.mp hd
    trivial
  · rw [e, PyData.showable]; exact a2
  · rw [e, PyData.hasDict]; exact a3
  · rw [e, PyData.shown]
    unfold listText
    rw [strLen_append]
    have := tf_len (PyData.shownAll (os.map fun o => PyData.int (o : Nat))) 0 ("[" : String)
    have e1 : (("[" : String) : Str).length = 1 := rfl
    have e2 : (("]" : String) : Str).length = 1 := rfl
    rw [e1] at this
    rw [e2]
    have hz : sizeLine = 16777216 := sizeLine_eq
    omega
end L3

namespace L3
open PySem PySem.Spec PyProof.Rows L2 Evl
open Classical
local macro_rules | `(tactic| simp!) => `(tactic| try simp only [↓e_while, ↓e_var, ↓e_c, ↓e_op, ↓e_nil, ↓e_cons, ↓e_tup, ↓e_lst, ↓e_lstC, ↓e_tru, ↓e_qnot, ↓e_qand, ↓e_qor, ↓e_qyes, ↓e_if, ↓e_not, ↓e_and, ↓e_or, ↓e_neg, ↓e_chain, ↓e_call, ↓e_no, ↓e_part, ↓e_sl, ↓e_slC, ↓e_fn, ↓e_fn0, ↓e_fnK, ↓e_m0, ↓e_m, ↓e_frz, ↓e_fz, ↓e_app, ↓e_lc, ↓e_esc, ↓e_next, ↓e_seq, ↓e_ret, ↓e_retN, ↓e_drop, ↓e_set, ↓e_ifS, ↓e_brk, ↓e_cnt, ↓e_par, ↓e_aug, ↓e_setIx, ↓e_for, ↓e_unp, ↓e_nm, ↓e_tgt, ↓e_iLst, ↓e_iTp, ↓e_iStr, ↓e_iR1, ↓isR1_s, ↓e_iR2, ↓isR2_s, ↓e_iEn, ↓isEn_s, ↓e_iEnS, ↓isEnS_s, ↓r_addI, ↓r_addS, ↓r_addT, ↓r_addL, ↓r_iaddI, ↓r_iaddS, ↓r_sub, ↓r_mulI, ↓r_mulL, ↓r_mod, ↓r_fdiv, ↓r_pow, ↓r_ordI, ↓r_ordS, ↓r_is, ↓r_inS, ↓r_ixS, ↓r_ixL, ↓r_ixR, ↓r_ixT, ↓r_ixC, ↓r_slS, ↓r_slT, ↓r_slL, ↓r_slR, ↓r_lenS, ↓r_lenL, ↓r_lenT, ↓r_lenR, ↓r_abs, ↓r_max, ↓r_min, ↓r_intI, ↓r_intB, ↓r_ord, ↓r_listL, ↓r_listT, ↓r_tupL, ↓r_tupT, ↓r_split, ↓r_part, ↓r_join, ↓r_joinC, ↓r_starts, ↓r_ends, ↓r_lower, ↓r_upper, ↓r_rfind, ↓r_index, ↓r_all, ↓r_any, ↓r_sum, ↓r_hex, ↓r_isi, ↓r_eqS, ↓r_neS, ↓r_eqI, ↓r_neI, ↓r_eqB, ↓r_neB, ↓r_eqL, ↓r_neL, ↓r_eqL0, ↓r_neL0, ↓t_s, ↓r_eq00, ↓r_ne00, ↓gets_s, ↓gets_n, ↓onS_s, ↓onI_s, ↓onC_s, ↓onB_s, ↓onL_s, ↓thenP_t, ↓ifI_t, ↓ifI_f, ifI_t, ifI_f, gets_s, gets_n, onS_s, onI_s, onC_s, onB_s, onL_s, thenP_t, gets_if, endG_rt, endG_rz, endG_nx, endN_rt, has_ls1, has_ls2, startG, wipeG, setAll, cut_from1, cut_init, atI_0, atI_1, atI_2, atI_last, List.map_cons, List.map_nil, List.cons_append, List.nil_append, List.append_nil, List.replicate, List.getElem?_cons_zero, List.getElem?_cons_succ, List.getElem?_nil, List.set_cons_zero, List.set_cons_succ, List.length_cons, List.length_nil, List.length_map, List.length_append, Nat.zero_add, Nat.sub_zero, Nat.reduceSub, Nat.reduceAdd, Nat.reduceLeDiff, List.isEmpty_cons, List.isEmpty_nil, true_and, and_true, if_true, if_false, reduceIte, Bool.not_true, Bool.not_false, Bool.not_not, Bool.false_eq_true, reduceCtorEq, List.forall_mem_cons, List.forall_mem_nil, implies_true, List.mem_singleton, decide_eq_true_eq, Bool.not_eq_true', decide_eq_false_iff_not, okM0_iff, okM1c, List.take_zero, List.take_succ_cons, gr_str_iff, gr_int_iff, gr_bl_iff, gr_non_iff, gr_lss_iff, gr_ls0_iff, lsOf_ls, lsOf_rl, lsOf_c, sqOf_ls, sqOf_rl, sqOf_tp, sqOf_c, lsOwn_ls, lsOwn_c, tpOf_tp, truD_ls, truD_rl, truD_tp, truD_bl, truD_int, truD_non, isNon, tyD, get_snoc, set_snoc, not_true_eq_false, not_false_eq_true, Option.some.injEq, Int.reduceLT, Int.reduceLE, Int.reduceNeg, Int.reducePow, Int.reduceToNat, and_self, atI_nat, inS_one, ↓e_tab, ↓r_isBl, ↓r_isiO, ↓e_prop, ↓e_mk, ↓e_mkL, ↓e_meth, ↓e_cval, ↓e_cm, ↓e_setF, ↓e_zp, ↓e_enSK, ↓e_par3, ↓r_find, ↓e_asg3, ↓e_dispC, ↓e_dtIx, ↓onDt_s, ↓e_get2, ↓e_tabG, ↓tabGI_s, ↓tabGI_n, ↓r_lstrip, ↓e_unpL])
local macro_rules | `(tactic| simp! [$xs,*]) => `(tactic| try simp only [↓e_while, ↓e_var, ↓e_c, ↓e_op, ↓e_nil, ↓e_cons, ↓e_tup, ↓e_lst, ↓e_lstC, ↓e_tru, ↓e_qnot, ↓e_qand, ↓e_qor, ↓e_qyes, ↓e_if, ↓e_not, ↓e_and, ↓e_or, ↓e_neg, ↓e_chain, ↓e_call, ↓e_no, ↓e_part, ↓e_sl, ↓e_slC, ↓e_fn, ↓e_fn0, ↓e_fnK, ↓e_m0, ↓e_m, ↓e_frz, ↓e_fz, ↓e_app, ↓e_lc, ↓e_esc, ↓e_next, ↓e_seq, ↓e_ret, ↓e_retN, ↓e_drop, ↓e_set, ↓e_ifS, ↓e_brk, ↓e_cnt, ↓e_par, ↓e_aug, ↓e_setIx, ↓e_for, ↓e_unp, ↓e_nm, ↓e_tgt, ↓e_iLst, ↓e_iTp, ↓e_iStr, ↓e_iR1, ↓isR1_s, ↓e_iR2, ↓isR2_s, ↓e_iEn, ↓isEn_s, ↓e_iEnS, ↓isEnS_s, ↓r_addI, ↓r_addS, ↓r_addT, ↓r_addL, ↓r_iaddI, ↓r_iaddS, ↓r_sub, ↓r_mulI, ↓r_mulL, ↓r_mod, ↓r_fdiv, ↓r_pow, ↓r_ordI, ↓r_ordS, ↓r_is, ↓r_inS, ↓r_ixS, ↓r_ixL, ↓r_ixR, ↓r_ixT, ↓r_ixC, ↓r_slS, ↓r_slT, ↓r_slL, ↓r_slR, ↓r_lenS, ↓r_lenL, ↓r_lenT, ↓r_lenR, ↓r_abs, ↓r_max, ↓r_min, ↓r_intI, ↓r_intB, ↓r_ord, ↓r_listL, ↓r_listT, ↓r_tupL, ↓r_tupT, ↓r_split, ↓r_part, ↓r_join, ↓r_joinC, ↓r_starts, ↓r_ends, ↓r_lower, ↓r_upper, ↓r_rfind, ↓r_index, ↓r_all, ↓r_any, ↓r_sum, ↓r_hex, ↓r_isi, ↓r_eqS, ↓r_neS, ↓r_eqI, ↓r_neI, ↓r_eqB, ↓r_neB, ↓r_eqL, ↓r_neL, ↓r_eqL0, ↓r_neL0, ↓t_s, ↓r_eq00, ↓r_ne00, ↓gets_s, ↓gets_n, ↓onS_s, ↓onI_s, ↓onC_s, ↓onB_s, ↓onL_s, ↓thenP_t, ↓ifI_t, ↓ifI_f, ifI_t, ifI_f, gets_s, gets_n, onS_s, onI_s, onC_s, onB_s, onL_s, thenP_t, gets_if, endG_rt, endG_rz, endG_nx, endN_rt, has_ls1, has_ls2, startG, wipeG, setAll, cut_from1, cut_init, atI_0, atI_1, atI_2, atI_last, List.map_cons, List.map_nil, List.cons_append, List.nil_append, List.append_nil, List.replicate, List.getElem?_cons_zero, List.getElem?_cons_succ, List.getElem?_nil, List.set_cons_zero, List.set_cons_succ, List.length_cons, List.length_nil, List.length_map, List.length_append, Nat.zero_add, Nat.sub_zero, Nat.reduceSub, Nat.reduceAdd, Nat.reduceLeDiff, List.isEmpty_cons, List.isEmpty_nil, true_and, and_true, if_true, if_false, reduceIte, Bool.not_true, Bool.not_false, Bool.not_not, Bool.false_eq_true, reduceCtorEq, List.forall_mem_cons, List.forall_mem_nil, implies_true, List.mem_singleton, decide_eq_true_eq, Bool.not_eq_true', decide_eq_false_iff_not, okM0_iff, okM1c, List.take_zero, List.take_succ_cons, gr_str_iff, gr_int_iff, gr_bl_iff, gr_non_iff, gr_lss_iff, gr_ls0_iff, lsOf_ls, lsOf_rl, lsOf_c, sqOf_ls, sqOf_rl, sqOf_tp, sqOf_c, lsOwn_ls, lsOwn_c, tpOf_tp, truD_ls, truD_rl, truD_tp, truD_bl, truD_int, truD_non, isNon, tyD, get_snoc, set_snoc, not_true_eq_false, not_false_eq_true, Option.some.injEq, Int.reduceLT, Int.reduceLE, Int.reduceNeg, Int.reducePow, Int.reduceToNat, and_self, atI_nat, inS_one, ↓e_tab, ↓r_isBl, ↓r_isiO, ↓e_prop, ↓e_mk, ↓e_mkL, ↓e_meth, ↓e_cval, ↓e_cm, ↓e_setF, ↓e_zp, ↓e_enSK, ↓e_par3, ↓r_find, ↓e_asg3, ↓e_dispC, ↓e_dtIx, ↓onDt_s, ↓e_get2, ↓e_tabG, ↓tabGI_s, ↓tabGI_n, ↓r_lstrip, ↓e_unpL, $xs,*])
local macro_rules | `(tactic| dsimp!) => `(tactic| simp only [List.forall_mem_cons, List.forall_mem_nil, List.mem_singleton, forall_eq, implies_true, and_true, true_and, gr_str_iff, gr_int_iff, gr_bl_iff, gr_non_iff, gr_lss_iff, gr_ls0_iff, gr_opt_iff, gr_ints_iff, gr_rl_iff, gr_tpU_iff, gr_obU_iff, gr_cl_iff, gr_tp0_iff, gr_tpc_iff, gr_lsc_iff])
def lb0_law : DS :=
  (dSeq (dSet 5 (dFn (cBagA 0 sp_law_octets) [] (aCons (dVar 3) aNil)))
    (dSeq (dSet 6 (dM mJoin (dC (.str [])) (aCons (dLc (iR1 (aCons (dFn (cBagA 0 sp_law_take) [] (aCons (dVar 3) (aCons (dC (.int 9)) aNil))) aNil)) (Tgt.nm 8) qYes (dOp rIxD (dVar 1) (dFn (cBagA 0 sp_law_take) [] (aCons (dVar 3) (aCons (dCall rLen (aCons (dVar 1) aNil)) aNil)))) [8]) aNil)))
    (dSeq (dSet 6 (dOp rIxD (dLst (aCons (dVar 6) (aCons (dOp rAddD (dVar 6) (dC (.str [94]))) (aCons (dC (.str [])) (aCons (dC (.str [47, 58, 64])) aNil))))) (dFn (cBagA 0 sp_law_take) [] (aCons (dVar 3) (aCons (dC (.int 4)) aNil)))))
    (dSeq (dSet 7 (dCall rRepr (aCons (dVar 5) aNil)))
    (dSeq (dIfS (qTru (dOp (rEqD' true) (dFn (cPure sp_law_outcome) [] (aCons (dVar 5) (aCons (dVar 6) aNil))) (dTup (aCons (dC (.str [116, 111, 108, 100])) (aCons (dFn (cPure sp_law_due) [] (aCons (dVar 5) (aCons (dVar 6) aNil))) aNil)))))
    (dRet (dC (.bl false)))
    dNext)
    (dSeq (dIfS (qOr (qTru (dOp (rEqD' true) (dFn (cPure sp_p_escaped2) dv_p_escaped2_D1 (aCons (dVar 5) aNil)) (dFn (cPure sp_law_due) [] (aCons (dVar 5) (aCons (dC (.str [])) aNil))))) (qTru (dOp rNeTx (dCall rRepr (aCons (dVar 5) aNil)) (dVar 7))))
    (dRet (dC (.bl false)))
    dNext)
    (dSeq (dIfS (qTru (dOp (rEqD' true) (dFnK (cPure sp_p_escaped2) gD_p_escaped2_Kkeep 1 1 (aCons (dVar 5) aNil) (aCons (dVar 1) aNil)) (dFn (cPure sp_law_due) [] (aCons (dVar 5) (aCons (dVar 1) aNil)))))
    (dRet (dC (.bl false)))
    dNext)
    (dSeq (dSet 8 (dFn (cBagA 0 sp_law_take) [] (aCons (dVar 3) (aCons (dOp rAddD (dCall rLen (aCons (dVar 5) aNil)) (dC (.int 1))) aNil))))
    (dSeq (dSet 9 (dOp rIxD (dLst (aCons (rNegD (dC (.int 1))) (aCons (dC (.int 256)) (aCons (dC (.bl true)) (aCons (dC .non) (aCons (dC (.str [97])) (aCons (dOp rPowD (dC (.int 10)) (dC (.int 30))) (aCons (dLst aNil) (aCons (dTup (aCons (dC (.int 1)) aNil)) aNil))))))))) (dFn (cBagA 0 sp_law_take) [] (aCons (dVar 3) (aCons (dC (.int 8)) aNil)))))
    (dSeq (dSet 10 (dOp rAddD (dOp rAddD (dOp rAddD (dSl (dVar 5) dNo (dPart (dVar 8))) (dLst (aCons (dVar 9) aNil))) (dSl (dVar 5) (dPart (dVar 8)) dNo)) (dOp rIxD (dLst (aCons (dLst aNil) (aCons (dLst (aCons (dC (.bl false)) aNil)) aNil))) (dFn (cBagA 0 sp_law_take) [] (aCons (dVar 3) (aCons (dC (.int 2)) aNil))))))
    (dIfS (qTru (dOp (rEqD' true) (dFn (cPure sp_law_outcome) [] (aCons (dVar 10) (aCons (dVar 6) aNil))) (dTup (aCons (dC (.str [119, 114, 111, 110, 103])) (aCons (dVar 8) aNil)))))
    (dRet (dC (.bl false)))
    dNext)))))))))))
def lb1_law : DS :=
  (dSeq (dSet 3 (dFn (cNew sp_law_bag) [] (aCons (dVar 0) (aCons (dVar 2) aNil))))
    (dFor (iR1 (aCons (dC (.int 8)) aNil)) (Tgt.nm 4) lb0_law))
def rd_law : DS :=
  (dSeq (dSet 1 (dFn0 (cPure sp_law_signs) []))
    (dSeq (dFor (iR1 (aCons (dCall rMax2 (aCons (dC (.int 2)) (aCons (dCall rMin2 (aCons (dC (.int 6)) (aCons (dCall rLen (aCons (dVar 0) aNil)) aNil))) aNil))) aNil)) (Tgt.nm 2) lb1_law)
    (dRet (dAnd (dOp (rEqD' false) (dFn (cPure sp_p_escaped2) dv_p_escaped2_D1 (aCons (dLst aNil) aNil)) (dC (.str []))) (dOp (rEqD' false) (dFnK (cPure sp_p_escaped2) gD_p_escaped2_Kkeep 1 1 (aCons (dLst (aCons (dC (.int 94)) (aCons (dC (.int 126)) (aCons (dC (.int 37)) aNil)))) aNil) (aCons (dC (.str [94])) aNil)) (dC (.str [94, 53, 69, 126, 94, 50, 53])))))))
theorem tx_ne {s : Str} {M : MM} {K : Kd} (k : K (.bl false) M) : rNeTx (.tx s) (.tx s) M K := ⟨s, s, rfl, rfl, by rw [decide_eq_true rfl]; exact k⟩
theorem ne_same {x : D} {M : MM} {K : Kd} (hp : Pl 9 (view M x)) (k : K (.bl false) M) : rEqD' true x x M K := ⟨hp, hp, by
  rw [show (if true = true then !decide (eqD M x x) else decide (eqD M x x)) = false by rw [decide_eq_true (show eqD M x x from rfl)]; rfl]
  exact k⟩
theorem pl_two (a b : D) (ha : Pl 8 a) (hb : Pl 8 b) : Pl 9 (.tp [a, b]) := by
  rw [pl_tp]
  intro d hd
  simp only [List.mem_cons, List.not_mem_nil, or_false] at hd
  rcases hd with rfl | rfl
  · exact ha
  · exact hb
theorem octs_call {Γ : G} {M : MM} {K : Kd} {R : Rx} {l : List D} {k : Nat} (hM : M[k]? = some (.ls l)) (hb : BagA l) (h : ∀ os l', OcOk 12 os → BagA l' → K (.ls (natsD os)) (M.set k (.ls l'))) : cBagA 0 sp_law_octets Γ [.cel k] M K R := by
  refine cBagA_imp (S := DrawA [] (fun d => ∃ os, OcOk 12 os ∧ d = .ls (natsD os))) (fun ds M K R h => ?_) (drawA_call hM hb (fun d hd => nomatch hd) (by rintro d ⟨os, _, rfl⟩; exact gr_ls.mpr (gr_nats os)) fun d l' hd hb' => ?_)
  · obtain ⟨l, e, eM, hb, kk⟩ := h
    exact ⟨l, e, eM, hb, fun os l' h hb' => kk _ l' ⟨os, h, rfl⟩ hb'⟩
  · obtain ⟨os, hp, rfl⟩ := hd
    exact h os l' hp hb'
theorem gr_nats1 {os : List Nat} : ∀ d ∈ [D.ls (natsD os)], Gr d := fun d hd => by rw [List.mem_singleton.mp hd]; exact gr_ls.mpr (gr_nats os)
def KpOk (t : Tx) : Prop := t.length ≤ 20 ∧ ∀ c ∈ t, c ∈ allS
theorem turn_loop {E : DEnds} {o0 o2 : Option D} {k : Nat} : ∀ (ts : List Nat) (g : G) (M : MM) (l : List D), g.length = 7 → M[k]? = some (.ls l) → BagA l →
    (∀ g M, g.length = 7 → E.nx (o0 :: some (.str allS) :: o2 :: some (.cel k) :: g) M) → forD (fun _ => True) (Tgt.nm 4) lb0_law E (ts.map fun i => .int (i : Nat)) (o0 :: some (.str allS) :: o2 :: some (.cel k) :: g) M := by
  intro ts g M l hg hM hb kk
  refine for_indL (P := fun a b Γ M => ∃ l g, g.length = 7 ∧ Γ = o0 :: some (.str allS) :: o2 :: some (.cel k) :: g ∧ M[k]? = some (.ls l) ∧ BagA l) ts ?_ ?_ ?_
  · rintro Γ M ⟨l, g, hg, rfl, _, _⟩
    exact ⟨trivial, kk _ _ hg⟩
  · rintro a x b Γ M N hab hN ⟨l, g, hg, rfl, hM, hb⟩
    match g, hg with
    | [o4, o5, o6, o7, o8, o9, o10], _ =>
    refine ⟨trivial, ?_⟩
    unfold lb0_law
    simp only [e_nm, List.set_cons_succ, List.set_cons_zero]
    refine seq_g fun N2 hN2 => ?_
    simp!
    refine octs_call hM hb fun os l1 ho hb1 => ?_
    have hM1 : (M.set k (.ls l1))[k]? = some (.ls l1) := get_set hM
    generalize M.set k (.ls l1) = M1 at hM1 ⊢
    obtain ⟨hl, h8⟩ := ho
    simp!
    rw [hN2]
    clear hN2
    refine seq_g fun N2 hN2 => ?_
    simp!
    refine take_callA hM1 hb1 (by decide) (by decide) fun n l2 n0 n1 hb2 => ?_
    have hM2 : (M1.set k (.ls l2))[k]? = some (.ls l2) := get_set hM1
    generalize M1.set k (.ls l2) = M2 at hM2 ⊢
    simp!
    refine ⟨⟨by omega, by omega⟩, ?_⟩
    refine comp_draw (enc2 := .str) (Good := fun t => ∃ c ∈ allS, t = [c]) (I := fun M => ∃ l', M[k]? = some (.ls l') ∧ BagA l') (List.range n.toNat) (fun _ _ => trivial) (by rw [List.length_range]; omega) ⟨l2, hM2, hb2⟩ ?_ ?_
    · rintro y _ M ⟨l2, hM2, hb2⟩ Y hY
      simp!
      refine take_callA hM2 hb2 (by decide) (by decide) fun p l3 p0 p1 hb3 => ?_
      simp!
      exact pickG p0 p1 fun c hc => hY [c] _ ⟨l3, get_set hM2, hb3⟩ ⟨c, hc, rfl⟩
    · rintro ys M ⟨l2, hM2, hb2⟩ hy hg
      have hyl : ys.length ≤ 8 := by
        rw [hy, List.length_range]
        omega
      have hs : ∀ zs : List Tx, (∀ t ∈ zs, ∃ c ∈ allS, t = [c]) → (∀ c ∈ zs.flatten, c ∈ allS) ∧ zs.flatten.length = zs.length ∧ (zs.map List.length).sum = zs.length := by
        intro zs hz
        induction zs with
        | nil => exact ⟨fun _ h => (nomatch h), rfl, rfl⟩
        | cons z zs ih =>
          obtain ⟨i1, i2, i3⟩ := ih fun t ht => hz t (List.mem_cons_of_mem _ ht)
          obtain ⟨c, hc, rfl⟩ := hz z List.mem_cons_self
          refine ⟨fun x hx => ?_, by simp [i2], by simp [i3]; omega⟩
          rw [List.flatten_cons] at hx
          rcases List.mem_append.mp hx with q | q
          · rw [List.mem_singleton.mp q]; exact hc
          · exact i1 x q
      obtain ⟨s1, s2, s3⟩ := hs ys hg
      simp!
      refine ⟨by omega, ?_⟩
      rw [jn_flat]
      show N2 [o0, some (.str allS), o2, some (.cel k), some (.int x), some (.ls (natsD os)), some (.str ys.flatten), o7, o8, o9, o10] M
      rw [hN2]
      clear hN2
      generalize ys.flatten = kq at s1 s2
      refine seq_g fun N2 hN2 => ?_
      have rest : ∀ kp M l, KpOk kp → M[k]? = some (.ls l) → BagA l → N2 [o0, some (.str allS), o2, some (.cel k), some (.int x), some (.ls (natsD os)), some (.str kp), o7, o8, o9, o10] M := by
        intro kp M3 l3 hkp hM3 hb3
        rw [hN2]
        clear hN2 hM hM1 hM2 hb hb1 hb2 hg s1 s2 s3 hs
        refine seq_g fun N2 hN2 => ?_
        simp!
        refine repr_nats (by omega) h8 ?_
        simp!
        rw [hN2]
        clear hN2
        refine seq_g fun N2 hN2 => ?_
        simp!
        refine ⟨List.forall_mem_cons.mpr ⟨gr_ls.mpr (gr_nats os), fun d hd => by rw [List.mem_singleton.mp hd]; exact trivial⟩, os, [], kp, by simp, rfl, by rw [List.length_nil]; omega, by have := hkp.1; omega, h8, (fun _ h => nomatch h), .inl ⟨rfl, rfl, ?_⟩⟩
        simp!
        refine ⟨List.forall_mem_cons.mpr ⟨gr_ls.mpr (gr_nats os), fun d hd => by rw [List.mem_singleton.mp hd]; exact trivial⟩, os, kp, rfl, rfl, by omega, by have := hkp.1; omega, h8, hkp.2, rfl, ?_⟩
        simp!
        refine ne_same (pl_two _ _ trivial trivial) ?_
        simp!
        rw [hN2]
        clear hN2
        refine seq_g fun N2 hN2 => ?_
        simp!
        refine ⟨List.forall_mem_cons.mpr ⟨gr_ls.mpr (gr_nats os), fun d hd => by rw [List.mem_singleton.mp hd]; exact trivial⟩, os, [], [], by simp, rfl, by rw [List.length_nil]; omega, by decide, h8, .inl ⟨rfl, rfl, ?_⟩⟩
        simp!
        refine ⟨List.forall_mem_cons.mpr ⟨gr_ls.mpr (gr_nats os), fun d hd => by rw [List.mem_singleton.mp hd]; exact trivial⟩, os, [], rfl, rfl, by omega, by decide, h8, (fun _ h => nomatch h), rfl, ?_⟩
        simp!
        refine repr_nats (by omega) h8 ?_
        simp!
        refine tx_ne ?_
        simp!
        rw [hN2]
        clear hN2
        refine seq_g fun N2 hN2 => ?_
        simp!
        unfold gD_p_escaped2_Kkeep
        refine ⟨List.forall_mem_cons.mpr ⟨gr_ls.mpr (gr_nats os), fun d hd => by rw [List.mem_singleton.mp hd]; exact trivial⟩, os, [], allS, by simp, rfl, by rw [List.length_nil]; omega, by decide, h8, .inl ⟨rfl, rfl, ?_⟩⟩
        simp!
        refine ⟨List.forall_mem_cons.mpr ⟨gr_ls.mpr (gr_nats os), fun d hd => by rw [List.mem_singleton.mp hd]; exact trivial⟩, os, allS, rfl, rfl, by omega, by decide, h8, (fun _ h => h), rfl, ?_⟩
        simp!
        rw [hN2]
        clear hN2
        refine seq_g fun N2 hN2 => ?_
        simp!
        refine take_callA hM3 hb3 (by omega) (by omega) fun at_ l4 a0 a1 hb4 => ?_
        obtain ⟨j, rfl⟩ : ∃ j : Nat, at_ = j := ⟨at_.toNat, by omega⟩
        have hj : j ≤ os.length := by omega
        have hM4 : (M3.set k (.ls l4))[k]? = some (.ls l4) := get_set hM3
        generalize M3.set k (.ls l4) = M4 at hM4 ⊢
        simp!
        rw [hN2]
        clear hN2
        refine seq_g fun N2 hN2 => ?_
        have rest2 : ∀ d M l, d ∈ oddL → M[k]? = some (.ls l) → BagA l → N2 [o0, some (.str allS), o2, some (.cel k), some (.int x), some (.ls (natsD os)), some (.str kp), some (.tx (shN os)), some (.int (j : Nat)), some d, o10] M := by
          intro d M5 l5 hd hM5 hb5
          rw [hN2]
          clear hN2 hM3 hM4 hb3 hb4
          refine seq_g fun N2 hN2 => ?_
          have ht : natsD os = natsD (os.take j) ++ natsD (os.drop j) := by rw [← List.map_append, List.take_append_drop]
          have lt : (os.take j).length = j := by rw [List.length_take]; omega
          have ld : (os.drop j).length ≤ 12 := by rw [List.length_drop]; omega
          have gd : Gr d := by
            simp only [oddL, List.mem_cons, List.not_mem_nil, or_false] at hd
            rcases hd with rfl | rfl | rfl | rfl | rfl | rfl | rfl | rfl <;> first | trivial | exact gr_ls.mpr (fun _ h => nomatch h) | exact gr_tp.mpr (fun d h => by rw [List.mem_singleton.mp h]; trivial)
          have rest3 : ∀ (y : List D) M l, y.length ≤ 1 → (∀ d ∈ y, Gr d) → M[k]? = some (.ls l) → BagA l → N2 [o0, some (.str allS), o2, some (.cel k), some (.int x), some (.ls (natsD os)), some (.str kp), some (.tx (shN os)), some (.int (j : Nat)), some d, some (.ls (natsD (os.take j) ++ (d :: (natsD (os.drop j) ++ y))))] M := by
            intro y M6 l6 hy gy hM6 hb6
            have ga : ∀ e ∈ d :: (natsD (os.drop j) ++ y), Gr e := fun e he => by
              rcases List.mem_cons.mp he with z | z
              · rw [z]; exact gd
              · exact (List.mem_append.mp z).elim (gr_nats _ e) (gy e)
            have la : (d :: (natsD (os.drop j) ++ y)).length ≤ 20 := by
              rw [List.length_cons, List.length_append, List.length_map]
              omega
            rw [hN2]
            clear hN2
            simp!
            refine ⟨List.forall_mem_cons.mpr ⟨gr_ls.mpr fun e he => (List.mem_append.mp he).elim (gr_nats _ e) (ga e), fun d hd => by rw [List.mem_singleton.mp hd]; exact trivial⟩, os.take j, d :: (natsD (os.drop j) ++ y), kp, rfl, rfl, by omega, by have := hkp.1; omega, fun o ho => h8 o (List.mem_of_mem_take ho), ga, .inr ⟨d, _, rfl, hd, rfl, ?_⟩⟩
            simp!
            rw [lt]
            refine ne_same (pl_two _ _ trivial trivial) ?_
            simp!
            exact hN _ _ ⟨l6, _, rfl, rfl, hM6, hb6⟩
          have h0 : (natsD (os.take j)).length = j := by rw [List.length_map, lt]
          have h1 : (natsD (os.drop j)).length ≤ 12 := by rw [List.length_map]; exact ld
          have c1 : cut (natsD os) none (some (j : Int)) = natsD (os.take j) := by rw [cut_to, ← List.map_take]
          have c2 : cut (natsD os) (some (j : Int)) none = natsD (os.drop j) := by rw [cut_from, ← List.map_drop]
          have fin : ∀ y : List D, (natsD (os.take j) ++ [d] ++ natsD (os.drop j) ++ y) = natsD (os.take j) ++ (d :: (natsD (os.drop j) ++ y)) := fun y => by simp
          have lt2 : (List.take j os).length ≤ 16777215 := by omega
          simp! [c1, c2]
          refine ⟨lt2, ?_⟩
          simp! [c1, c2]
          refine ⟨by simp only [List.length_append, List.length_cons, List.length_nil, List.length_map, List.length_take, List.length_drop]; omega, ?_⟩
          simp! [c1, c2]
          refine take_callA hM5 hb5 (by decide) (by decide) fun p l6 p0 p1 hb6 => ?_
          have hM6 : (M5.set k (.ls l6))[k]? = some (.ls l6) := get_set hM5
          generalize M5.set k (.ls l6) = M6 at hM6 ⊢
          refine pickL p0 (by simpa using p1) fun e he => ?_
          simp only [List.mem_cons, List.not_mem_nil, or_false] at he
          rcases he with rfl | rfl
          · have f := rest3 [] M6 l6 (by decide) (fun _ h => nomatch h) hM6 hb6
            rw [← fin, List.append_nil, ← c1, ← c2] at f
            simp!
            refine ⟨by rw [c1, c2, h0]; omega, ?_⟩
            simp!
            exact f
          · have f := rest3 [.bl false] M6 l6 (by decide) (fun d hd => by rw [List.mem_singleton.mp hd]; trivial) hM6 hb6
            rw [← fin, ← c1, ← c2] at f
            simp!
            refine ⟨by rw [c1, c2, h0]; omega, ?_⟩
            simp!
            exact f
        simp!
        refine ⟨by decide, ?_⟩
        simp!
        refine take_callA hM4 hb4 (by decide) (by decide) fun p l5 p0 p1 hb5 => ?_
        refine pickL p0 (by simpa using p1) fun d hd => ?_
        have hd2 : d ∈ oddL := hd
        have f := rest2 d _ _ hd2 (get_set hM4) hb5
        simp!
        exact f
      simp!
      refine ⟨by omega, ?_⟩
      simp!
      refine take_callA hM2 hb2 (by decide) (by decide) fun p l3 p0 p1 hb3 => ?_
      have hM3 : (M.set k (.ls l3))[k]? = some (.ls l3) := get_set hM2
      generalize M.set k (.ls l3) = M3 at hM3 ⊢
      refine pickL p0 (by simpa using p1) fun d hd => ?_
      simp only [List.mem_cons, List.not_mem_nil, or_false] at hd
      rcases hd with rfl | rfl | rfl | rfl
      · simp!
        exact rest _ _ _ ⟨by omega, s1⟩ hM3 hb3
      · simp!
        exact rest _ _ _ ⟨by rw [List.length_append]; show _ + 1 ≤ _; omega, fun c hc => (List.mem_append.mp hc).elim (s1 c) fun h => by rw [List.mem_singleton.mp h]; decide⟩ hM3 hb3
      · simp!
        exact rest _ _ _ ⟨by decide, fun _ h => nomatch h⟩ hM3 hb3
      · simp!
        exact rest _ _ _ ⟨by decide, by decide⟩ hM3 hb3
  · exact ⟨l, g, hg, rfl, hM, hb⟩
theorem sem_law (ds : List D) (M : MM) (K0 : Kd) (R0 : Kx) (h : sLaw ds M K0 R0) : rd_law (endG M.length K0 R0) (startG 11 ds) M := by
  obtain ⟨ns, rfl, rfl, hn, k⟩ := h
  unfold rd_law
  refine seq_g fun N0 hN0 => ?_
  simp!
  refine ⟨fun _ h => (nomatch h), rfl, rfl, rfl, ?_⟩
  simp!
  rw [hN0]
  clear hN0
  refine seq_g fun N hN => ?_
  simp!
  refine ⟨⟨by split <;> split <;> omega, by split <;> split <;> omega⟩, ?_⟩
  refine for_indL (P := fun a b Γ M => ∃ g : G, g.length = 9 ∧ Γ = some (.rl (ns.map .int)) :: some (.str allS) :: g) _ ?_ ?_ ⟨[none, none, none, none, none, none, none, none, none], rfl, rfl⟩
  · rintro Γ M ⟨g, hg, rfl⟩
    match g, hg with
    | [o2, o3, o4, o5, o6, o7, o8, o9, o10], _ =>
    refine ⟨trivial, ?_⟩
    show N _ _
    rw [hN]
    simp!
    refine ⟨(by dsimp!), [], [], [], rfl, rfl, by decide, by decide, (fun _ h => nomatch h), .inl ⟨rfl, rfl, ?_⟩⟩
    simp!
    rw [ifI_p (show escK [] [] = [] from rfl)]
    simp!
    unfold gD_p_escaped2_Kkeep
    refine ⟨List.forall_mem_cons.mpr ⟨gr_ls.mpr (gr_nats [94, 126, 37]), fun d hd => by rw [List.mem_singleton.mp hd]; exact trivial⟩, [94, 126, 37], [], [94], rfl, rfl, by decide, by decide, by decide, .inl ⟨rfl, rfl, ?_⟩⟩
    simp!
    rw [decide_eq_true (show escK [94] [94, 126, 37] = [94, 53, 69, 126, 94, 50, 53] by decide +kernel)]
    exact k
  · rintro a x b Γ M N2 hab hN2 ⟨g, hg, rfl⟩
    match g, hg with
    | [o2, o3, o4, o5, o6, o7, o8, o9, o10], _ =>
    refine ⟨trivial, ?_⟩
    have hx : x ≤ 100 := by
      have : x ∈ a ++ x :: b := by simp
      rw [hab] at this
      have := List.mem_range.mp this
      revert this
      split <;> split <;> omega
    unfold lb1_law
    simp only [e_nm, List.set_cons_succ, List.set_cons_zero]
    refine seq_g fun N3 hN3 => ?_
    simp!
    refine ⟨(by dsimp!), ns, x, rfl, rfl, by omega, hn, fun bg hb => ⟨_, rfl, hb.gr, rfl, ?_⟩⟩
    rw [hN3]
    simp!
    refine turn_loop (List.range 8) [o4, o5, o6, o7, o8, o9, o10] _ bg rfl get_snoc hb fun g M hg => ?_
    match g, hg with
    | [o4, o5, o6, o7, o8, o9, o10], _ => exact hN2 _ _ ⟨_, rfl, rfl⟩
end L3

namespace L3
open PySem PySem.Spec PyProof.Rows L2 Evl
open Classical
abbrev topS (i : Nat) : Stmt := PySem.Challenge.pw_urlplaces_k02_octets_escaped.main.body.getD i (.Pass ⟨0, 0, 0, 0⟩)
/-- what the module's names hold -/
structure Txt (w : World) (K : PySem.W.Frag) (mg : Str → Option Value) : Prop where
  b_abs : mg "abs" = none
  b_bool : mg "bool" = none
  b_enumerate : mg "enumerate" = none
  b_int : mg "int" = none
  b_isinstance : mg "isinstance" = none
  b_len : mg "len" = none
  b_max : mg "max" = none
  b_min : mg "min" = none
  b_ord : mg "ord" = none
  b_range : mg "range" = none
  b_repr : mg "repr" = none
  c_ESCAPE : ∃ t, mg "ESCAPE" = some (.str "^" t)
  c_MOST_OCTET : ∃ t, mg "MOST_OCTET" = some (.int 255 t)
  c_PLAIN : ∃ t, mg "PLAIN" = some (.str "-.0123456789ABCDEFGHIJKLMNOPQRSTUVWXYZ_abcdefghijklmnopqrstuvwxyz~" t)
abbrev st_NoOctet___init__ : Stmt := (clsB (topS 1)).getD 0 (.Pass ⟨0, 0, 0, 0⟩)
/-! escape_of -/
abbrev st_p_escape_of : Stmt := topS 6
theorem sc_p_escape_of : FnScope ["octet"] ["octet"] (defScope st_p_escape_of) := ⟨rfl, rfl, rfl, by decide +kernel, rfl, by decide +kernel, by decide +kernel⟩
theorem bd_p_escape_of {P : Program} {w : World} {K : PySem.W.Frag} {mg : Str → Option Value} {base : Heap} (T : Txt w K mg)  (f : Addr) : BodyD P w K mg base ["octet"] "escape_of" st_p_escape_of f 0 rd_p_escape_of := fun cdv A outer s H E hr => by
  have hN := sc_p_escape_of.nd
  exact (sb_one (ss_ret (se_esc (se_gstr (l := [94]) T.c_ESCAPE) (se_var 0))))
/-! is_octet -/
abbrev st_p_is_octet2 : Stmt := topS 7
theorem sc_p_is_octet2 : FnScope ["thing"] ["thing"] (defScope st_p_is_octet2) := ⟨rfl, rfl, rfl, by decide +kernel, rfl, by decide +kernel, by decide +kernel⟩
theorem bd_p_is_octet2 {P : Program} {w : World} {K : PySem.W.Frag} {mg : Str → Option Value} {base : Heap} (T : Txt w K mg)  (f : Addr) : BodyD P w K mg base ["thing"] "is_octet" st_p_is_octet2 f 0 rd_p_is_octet2 := fun cdv A outer s H E hr => by
  have hN := sc_p_is_octet2.nd
  exact (sb_one (ss_ret (se_and (se_callB cd_isi T.b_isinstance (sa_cons (se_var 0) (sa_cons (se_ty T.b_int) sa_nil))) (se_and (se_not (se_callB cd_isi T.b_isinstance (sa_cons (se_var 0) (sa_cons (se_ty T.b_bool) sa_nil)))) (se_one (se_chain isb_ord opd_le opd_le se_int (se_var 0) (se_gint T.c_MOST_OCTET)))))))
/-! sign_or_escape -/
abbrev st_p_sign_or_escape : Stmt := topS 8
theorem sc_p_sign_or_escape : FnScope ["octet", "stays", "found", "sign"] ["octet", "stays"] (defScope st_p_sign_or_escape) := ⟨rfl, rfl, rfl, by decide +kernel, rfl, by decide +kernel, by decide +kernel⟩
theorem bd_p_sign_or_escape {P : Program} {w : World} {K : PySem.W.Frag} {mg : Str → Option Value} {base : Heap} (T : Txt w K mg) (h_p_escape_of : FD P w K mg base "escape_of" 1 sp_p_escape_of []) (f : Addr) : BodyD P w K mg base ["octet", "stays", "found", "sign"] "sign_or_escape" st_p_sign_or_escape f 1 rd_p_sign_or_escape := fun cdv A outer s H E hr => by
  have hN := sc_p_sign_or_escape.nd
  exact (sb_cons (ss_setLc (i := 2) (own := [("sign", 3)]) (g := (Tgt.nm 3)) hN (si_str (se_var 1)) (blkOk_by (N := ["octet", "stays", "found", "sign"]) (sc := defScope st_p_sign_or_escape) (by decide +kernel)) (by decide) (fun _ _ _ _ _ => (pg_name (i := 3) hN rfl (by first | exact .inl rfl | exact .inr rfl))) (fun _ _ _ _ _ => (sts_one (sw_pt (sw_and (st_cmp isb_eq (opd_eqG hr.units) (se_callB cd_ord T.b_ord (sa_cons (se_var 3) sa_nil)) (se_var 0)) (sw_and1 (st_cmp isb_eq (opd_neG hr.units) (se_var 3) (se_gstr (l := [94]) T.c_ESCAPE))))))) (fun _ _ _ _ _ => (se_var 3)))
    (sb_one (ss_ret (se_if (st_cmp isb_eq (opd_neG hr.units) (se_var 2) (se_lst sa_nil)) (se_ix (se_var 2) se_int) (se_fd h_p_escape_of ck_pure (hr.mono (show 1 ≤ 1 by decide)) (sa_cons (se_var 0) sa_nil))))))
/-! escaped -/
abbrev st_p_escaped2 : Stmt := topS 9
theorem sc_p_escaped2 : FnScope ["numbers", "keep", "place", "octet"] ["numbers", "keep"] (defScope st_p_escaped2) := ⟨rfl, rfl, rfl, by decide +kernel, rfl, by decide +kernel, by decide +kernel⟩
theorem bd_p_escaped2 {P : Program} {w : World} {K : PySem.W.Frag} {mg : Str → Option Value} {base : Heap} (T : Txt w K mg) (h_p_is_octet2 : FD P w K mg base "is_octet" 1 sp_p_is_octet2 []) (h_p_sign_or_escape : FD P w K mg base "sign_or_escape" 2 sp_p_sign_or_escape []) (hx_NoOctet : FX P w K mg base "NoOctet" "place") (f : Addr) : BodyD P w K mg base ["numbers", "keep", "place", "octet"] "escaped" st_p_escaped2 f 2 rd_p_escaped2 := fun cdv A outer s H E hr => by
  have hN := sc_p_escaped2.nd
  exact (sb_cons (ss_for (g := (Tgt.tup [2, 3])) (si_en T.b_enumerate (sa_cons (se_var 0) sa_nil)) (pg_tup rfl (pgs_cons (pg_name (i := 2) hN rfl (by first | exact .inl rfl | exact .inr rfl)) (pgs_cons (pg_name (i := 3) hN rfl (by first | exact .inl rfl | exact .inr rfl)) pgs_nil)))
    (sb_one (ss_if (st_not (st_e (se_fd h_p_is_octet2 ck_pure (hr.mono (show 1 ≤ 2 by decide)) (sa_cons (se_var 3) sa_nil))))
    (sb_one (ss_raise hx_NoOctet rfl (hr.mono (show 2 ≤ 2 by decide)) (se_var 2)))
    sb_nil)))
    (sb_one (ss_ret (se_m PySem.F.slot_str_join PySem.F.type_str_join md_join (se_str (l := [])) (sa_cons (se_lc (own := [("octet", 3)]) (g := (Tgt.nm 3)) hN (si_lst (se_var 0)) (blkOk_by (N := ["numbers", "keep", "place", "octet"]) (sc := defScope st_p_escaped2) (by decide +kernel)) (by decide) (fun _ _ _ _ _ => (pg_name (i := 3) hN rfl (by first | exact .inl rfl | exact .inr rfl))) (fun _ _ _ _ _ => sts_nil) (fun _ _ _ _ _ => (se_fd h_p_sign_or_escape ck_pure (hr.mono (show 2 ≤ 2 by decide)) (sa_cons (se_var 3) (sa_cons (se_bin opd_add (se_gstr (l := [45, 46, 48, 49, 50, 51, 52, 53, 54, 55, 56, 57, 65, 66, 67, 68, 69, 70, 71, 72, 73, 74, 75, 76, 77, 78, 79, 80, 81, 82, 83, 84, 85, 86, 87, 88, 89, 90, 95, 97, 98, 99, 100, 101, 102, 103, 104, 105, 106, 107, 108, 109, 110, 111, 112, 113, 114, 115, 116, 117, 118, 119, 120, 121, 122, 126]) T.c_PLAIN) (se_var 1)) sa_nil))))) sa_nil)))))
/-! _law_bag -/
abbrev st_law_bag : Stmt := topS 11
theorem sc_law_bag : FnScope ["script", "at", "cell", "mixed", "spot", "each"] ["script", "at"] (defScope st_law_bag) := ⟨rfl, rfl, rfl, by decide +kernel, rfl, by decide +kernel, by decide +kernel⟩
theorem bd_law_bag {P : Program} {w : World} {K : PySem.W.Frag} {mg : Str → Option Value} {base : Heap} (T : Txt w K mg)  (f : Addr) : BodyD P w K mg base ["script", "at", "cell", "mixed", "spot", "each"] "_law_bag" st_law_bag f 0 rd_law_bag := fun cdv A outer s H E hr => by
  have hN := sc_law_bag.nd
  exact (by
    refine sb_cons (ss_set (i := 2) hN (se_if (st_cmp isb_ord opd_lt (se_var 1) (se_callB cd_len T.b_len (sa_cons (se_var 0) sa_nil))) (se_ix (se_var 0) (se_var 1)) se_int)) ?_;
    refine sb_cons (ss_set (i := 3) hN (se_bin opd_add (se_bin opd_mul se_int (se_var 1)) se_int)) ?_;
    refine sb_cons (ss_for (g := (Tgt.tup [4, 5])) (si_en T.b_enumerate (sa_cons (se_slice (se_var 0) so_no (so_some se_int)) sa_nil)) (pg_tup rfl (pgs_cons (pg_name (i := 4) hN rfl (by first | exact .inl rfl | exact .inr rfl)) (pgs_cons (pg_name (i := 5) hN rfl (by first | exact .inl rfl | exact .inr rfl)) pgs_nil)))
    (sb_one (ss_set (i := 3) hN (se_bin opd_mod (se_bin opd_add (se_bin opd_add (se_bin opd_mul (se_var 3) se_int) (se_bin opd_mod (se_var 5) se_int)) (se_bin opd_mul se_int (se_var 4))) se_int)))) ?_;
    exact sb_one (ss_ret (se_lstC (sa_cons (se_if (st_cmp isb_ord opd_ge (se_callB cd_abs T.b_abs (sa_cons (se_var 2) sa_nil)) (se_bin opd_pow se_int se_int)) (se_callB cd_abs T.b_abs (sa_cons (se_var 2) sa_nil)) se_int) (sa_cons (se_var 3) sa_nil)))))
/-! _law_take -/
abbrev st_law_take : Stmt := topS 12
theorem sc_law_take : FnScope ["bag", "many", "digit"] ["bag", "many"] (defScope st_law_take) := ⟨rfl, rfl, rfl, by decide +kernel, rfl, by decide +kernel, by decide +kernel⟩
theorem bd_law_take {P : Program} {w : World} {K : PySem.W.Frag} {mg : Str → Option Value} {base : Heap} (T : Txt w K mg)  (f : Addr) : BodyD P w K mg base ["bag", "many", "digit"] "_law_take" st_law_take f 0 rd_law_take := fun cdv A outer s H E hr => by
  have hN := sc_law_take.nd
  exact (by
    refine sb_cons (ss_if (st_cmp isb_ord opd_gt (se_ix (se_var 0) se_int) se_int)
    (by
    refine sb_cons (ss_set (i := 2) hN (se_bin opd_mod (se_ix (se_var 0) se_int) (se_var 1))) ?_;
    refine sb_cons (ss_setIx (se_var 0) se_int (se_bin opd_fdiv (se_ix (se_var 0) se_int) (se_var 1))) ?_;
    exact sb_one (ss_ret (se_var 2)))
    sb_nil) ?_;
    refine sb_cons (ss_setIx (se_var 0) se_int (se_bin opd_mod (se_bin opd_add (se_bin opd_mul (se_ix (se_var 0) se_int) se_int) se_int) se_int)) ?_;
    exact sb_one (ss_ret (se_bin opd_mod (se_bin opd_fdiv (se_bin opd_mod (se_bin opd_mul (se_bin opd_fdiv (se_ix (se_var 0) se_int) se_int) se_int) se_int) se_int) (se_var 1))))
/-! _law_signs -/
abbrev st_law_signs : Stmt := topS 13
theorem sc_law_signs : FnScope [] [] (defScope st_law_signs) := ⟨rfl, rfl, rfl, by decide +kernel, rfl, by decide +kernel, by decide +kernel⟩
theorem bd_law_signs {P : Program} {w : World} {K : PySem.W.Frag} {mg : Str → Option Value} {base : Heap} (T : Txt w K mg)  (f : Addr) : BodyD P w K mg base [] "_law_signs" st_law_signs f 0 rd_law_signs := fun cdv A outer s H E hr => by
  have hN := sc_law_signs.nd
  exact (sb_one (ss_ret (se_str (l := [32, 33, 34, 35, 36, 38, 39, 40, 41, 42, 43, 44, 45, 46, 47, 48, 49, 50, 51, 52, 53, 54, 55, 56, 57, 58, 59, 60, 61, 62, 63, 64, 65, 66, 67, 68, 69, 70, 71, 72, 73, 74, 75, 76, 77, 78, 79, 80, 81, 82, 83, 84, 85, 86, 87, 88, 89, 90, 91, 92, 93, 94, 95, 96, 97, 98, 99, 100, 101, 102, 103, 104, 105, 106, 107, 108, 109, 110, 111, 112, 113, 114, 115, 116, 117, 118, 119, 120, 121, 122, 123, 124, 125, 126]))))
/-! _law_plain -/
abbrev st_law_plain : Stmt := topS 14
theorem sc_law_plain : FnScope [] [] (defScope st_law_plain) := ⟨rfl, rfl, rfl, by decide +kernel, rfl, by decide +kernel, by decide +kernel⟩
theorem bd_law_plain {P : Program} {w : World} {K : PySem.W.Frag} {mg : Str → Option Value} {base : Heap} (T : Txt w K mg)  (f : Addr) : BodyD P w K mg base [] "_law_plain" st_law_plain f 0 rd_law_plain := fun cdv A outer s H E hr => by
  have hN := sc_law_plain.nd
  exact (sb_one (ss_ret (se_str (l := [45, 46, 48, 49, 50, 51, 52, 53, 54, 55, 56, 57, 65, 66, 67, 68, 69, 70, 71, 72, 73, 74, 75, 76, 77, 78, 79, 80, 81, 82, 83, 84, 85, 86, 87, 88, 89, 90, 95, 97, 98, 99, 100, 101, 102, 103, 104, 105, 106, 107, 108, 109, 110, 111, 112, 113, 114, 115, 116, 117, 118, 119, 120, 121, 122, 126]))))
/-! _law_sign -/
abbrev st_law_sign : Stmt := topS 15
theorem sc_law_sign : FnScope ["code"] ["code"] (defScope st_law_sign) := ⟨rfl, rfl, rfl, by decide +kernel, rfl, by decide +kernel, by decide +kernel⟩
theorem bd_law_sign {P : Program} {w : World} {K : PySem.W.Frag} {mg : Str → Option Value} {base : Heap} (T : Txt w K mg) (h_law_signs : FD P w K mg base "_law_signs" 1 sp_law_signs []) (f : Addr) : BodyD P w K mg base ["code"] "_law_sign" st_law_sign f 1 rd_law_sign := fun cdv A outer s H E hr => by
  have hN := sc_law_sign.nd
  exact (sb_cons (ss_if (sw_pt (sw_or (st_not (st_chain isb_ord isb_ord opd_le opd_le se_int (se_var 0) se_int)) (sw_or1 (st_cmp isb_eq (opd_eqG hr.units) (se_var 0) se_int))))
    (sb_one (ss_ret (se_str (l := []))))
    sb_nil)
    (sb_one (ss_ret (se_ix (se_fd0 h_law_signs ck_pure (hr.mono (show 1 ≤ 1 by decide))) (se_bin opd_sub (se_bin opd_sub (se_var 0) se_int) (se_callTy cd_int1 T.b_int (sa_cons (se_cmp opd_gt (se_var 0) se_int) sa_nil)))))))
/-! _law_escape -/
abbrev st_law_escape : Stmt := topS 16
theorem sc_law_escape : FnScope ["octet", "is_small", "pair"] ["octet", "is_small"] (defScope st_law_escape) := ⟨rfl, rfl, rfl, by decide +kernel, rfl, by decide +kernel, by decide +kernel⟩
theorem bd_law_escape {P : Program} {w : World} {K : PySem.W.Frag} {mg : Str → Option Value} {base : Heap} (T : Txt w K mg)  (f : Addr) : BodyD P w K mg base ["octet", "is_small", "pair"] "_law_escape" st_law_escape f 0 rd_law_escape := fun cdv A outer s H E hr => by
  have hN := sc_law_escape.nd
  exact (sb_cons (ss_set (i := 2) hN (se_bin opd_add (se_ix (se_str (l := [48, 49, 50, 51, 52, 53, 54, 55, 56, 57, 65, 66, 67, 68, 69, 70])) (se_bin opd_fdiv (se_var 0) se_int)) (se_ix (se_str (l := [48, 49, 50, 51, 52, 53, 54, 55, 56, 57, 65, 66, 67, 68, 69, 70])) (se_bin opd_mod (se_var 0) se_int))))
    (sb_one (ss_ret (se_bin opd_add (se_str (l := [94])) (se_if (st_e (se_var 1)) (se_m0 PySem.F.slot_str_lower PySem.F.type_str_lower md_lower (se_var 2)) (se_var 2))))))
/-! _law_due -/
abbrev st_law_due : Stmt := topS 17
theorem sc_law_due : FnScope ["numbers", "keeps", "found", "octet", "sign", "stays"] ["numbers", "keeps"] (defScope st_law_due) := ⟨rfl, rfl, rfl, by decide +kernel, rfl, by decide +kernel, by decide +kernel⟩
theorem bd_law_due {P : Program} {w : World} {K : PySem.W.Frag} {mg : Str → Option Value} {base : Heap} (T : Txt w K mg) (h_law_sign : FD P w K mg base "_law_sign" 2 sp_law_sign []) (h_law_plain : FD P w K mg base "_law_plain" 1 sp_law_plain []) (h_law_escape : FD P w K mg base "_law_escape" 1 sp_law_escape []) (f : Addr) : BodyD P w K mg base ["numbers", "keeps", "found", "octet", "sign", "stays"] "_law_due" st_law_due f 2 rd_law_due := fun cdv A outer s H E hr => by
  have hN := sc_law_due.nd
  exact (by
    refine sb_cons (ss_set (i := 2) hN (se_str (l := []))) ?_;
    refine sb_cons (ss_for (g := (Tgt.nm 3)) (si_lst (se_var 0)) (pg_name (i := 3) hN rfl (by first | exact .inl rfl | exact .inr rfl))
    (by
    refine sb_cons (ss_set (i := 4) hN (se_fd h_law_sign ck_pure (hr.mono (show 2 ≤ 2 by decide)) (sa_cons (se_var 3) sa_nil))) ?_;
    refine sb_cons (ss_set (i := 5) hN (se_and (se_cmp opd_notIn (se_var 4) (se_lst (sa_cons (se_str (l := [])) (sa_cons (se_str (l := [94])) sa_nil)))) (se_one (se_or (se_cmp opd_in (se_var 4) (se_fd0 h_law_plain ck_pure (hr.mono (show 1 ≤ 2 by decide)))) (se_one (se_cmp opd_in (se_var 4) (se_var 1))))))) ?_;
    exact sb_one (ss_set (i := 2) hN (se_bin opd_add (se_var 2) (se_if (st_e (se_var 5)) (se_var 4) (se_fd h_law_escape ck_pure (hr.mono (show 1 ≤ 2 by decide)) (sa_cons (se_var 3) (sa_cons se_bl sa_nil)))))))) ?_;
    exact sb_one (ss_ret (se_var 2)))
/-! _law_outcome -/
abbrev st_law_outcome : Stmt := topS 18
theorem sc_law_outcome : FnScope ["numbers", "keeps", "e"] ["numbers", "keeps"] (defScope st_law_outcome) := ⟨rfl, rfl, rfl, by decide +kernel, rfl, by decide +kernel, by decide +kernel⟩
theorem bd_law_outcome {P : Program} {w : World} {K : PySem.W.Frag} {mg : Str → Option Value} {base : Heap} (T : Txt w K mg)  (h_p_escaped2_Kkeep : FDK P w K mg base "escaped" 3 sp_p_escaped2 1 ["keep"] gD_p_escaped2_Kkeep) (hx_NoOctet : FX P w K mg base "NoOctet" "place") (f : Addr) : BodyD P w K mg base ["numbers", "keeps", "e"] "_law_outcome" st_law_outcome f 3 rd_law_outcome := fun cdv A outer s H E hr => by
  have hN := sc_law_outcome.nd
  exact (sb_one (ss_try (i := 2) (FX.cls hx_NoOctet) rfl rfl hN (fun pn xe => (sb_one (ss_ret (se_tup (sa_cons (se_str (l := [116, 111, 108, 100])) (sa_cons (se_fdK h_p_escaped2_Kkeep ck_pure (hr.mono (show 3 ≤ 3 by decide)) (sa_cons (se_var 0) sa_nil) (sk_cons (se_var 1) sk_nil)) sa_nil)))))) (fun a dd C oe pn hm hz hf => (sb_one (ss_ret (se_tup (sa_cons (se_str (l := [119, 114, 111, 110, 103])) (sa_cons (se_xf hx_NoOctet hm hz hf (se_var 2)) sa_nil))))))))
/-! _law_octets -/
abbrev st_law_octets : Stmt := topS 19
theorem sc_law_octets : FnScope ["bag", "signs", "found", "turn"] ["bag"] (defScope st_law_octets) := ⟨rfl, rfl, rfl, by decide +kernel, rfl, by decide +kernel, by decide +kernel⟩
theorem bd_law_octets {P : Program} {w : World} {K : PySem.W.Frag} {mg : Str → Option Value} {base : Heap} (T : Txt w K mg) (h_law_signs : FD P w K mg base "_law_signs" 1 sp_law_signs []) (h_law_take : FD P w K mg base "_law_take" 1 sp_law_take []) (f : Addr) : BodyD P w K mg base ["bag", "signs", "found", "turn"] "_law_octets" st_law_octets f 1 rd_law_octets := fun cdv A outer s H E hr => by
  have hN := sc_law_octets.nd
  exact (by
    refine sb_cons (ss_set (i := 1) hN (se_fd0 h_law_signs ck_pure (hr.mono (show 1 ≤ 1 by decide)))) ?_;
    refine sb_cons (ss_set (i := 2) hN (se_lstC sa_nil)) ?_;
    refine sb_cons (ss_for (g := (Tgt.nm 3)) (si_r1 T.b_range (sa_cons (se_fd h_law_take (ck_bagA 0) (hr.mono (show 1 ≤ 1 by decide)) (sa_cons (se_var 0) (sa_cons se_int sa_nil))) sa_nil)) (pg_name (i := 3) hN rfl (by first | exact .inl rfl | exact .inr rfl))
    (sb_one (ss_expr (se_app (se_var 2) (se_ix (se_lst (sa_cons (se_fd h_law_take (ck_bagA 0) (hr.mono (show 1 ≤ 1 by decide)) (sa_cons (se_var 0) (sa_cons se_int sa_nil))) (sa_cons (se_callB cd_ord T.b_ord (sa_cons (se_ix (se_var 1) (se_fd h_law_take (ck_bagA 0) (hr.mono (show 1 ≤ 1 by decide)) (sa_cons (se_var 0) (sa_cons (se_callB cd_len T.b_len (sa_cons (se_var 1) sa_nil)) sa_nil)))) sa_nil)) sa_nil))) (se_fd h_law_take (ck_bagA 0) (hr.mono (show 1 ≤ 1 by decide)) (sa_cons (se_var 0) (sa_cons se_int sa_nil)))))))) ?_;
    exact sb_one (ss_ret (se_frz 2)))
/-! law -/
abbrev st_law : Stmt := topS 20
theorem sc_law : FnScope ["script", "signs", "k", "bag", "turn", "numbers", "keeps", "kept", "at", "odd", "spoilt"] ["script"] (defScope st_law) := ⟨rfl, rfl, rfl, by decide +kernel, rfl, by decide +kernel, by decide +kernel⟩
theorem bd_law {P : Program} {w : World} {K : PySem.W.Frag} {mg : Str → Option Value} {base : Heap} (T : Txt w K mg) (h_law_signs : FD P w K mg base "_law_signs" 1 sp_law_signs []) (h_law_bag : FD P w K mg base "_law_bag" 1 sp_law_bag []) (h_law_octets : FD P w K mg base "_law_octets" 2 sp_law_octets []) (h_law_take : FD P w K mg base "_law_take" 1 sp_law_take []) (h_law_outcome : FD P w K mg base "_law_outcome" 4 sp_law_outcome []) (h_law_due : FD P w K mg base "_law_due" 3 sp_law_due []) (h_p_escaped2_D1 : FD P w K mg base "escaped" 3 sp_p_escaped2 dv_p_escaped2_D1) (h_p_escaped2_Kkeep : FDK P w K mg base "escaped" 3 sp_p_escaped2 1 ["keep"] gD_p_escaped2_Kkeep) (f : Addr) : BodyG P w K mg base ["script", "signs", "k", "bag", "turn", "numbers", "keeps", "kept", "at", "odd", "spoilt"] "law" st_law f 4 rd_law := fun cdv A outer s H E hgd hr => by
  have hN := sc_law.nd
  exact (by
    refine sb_cons (ss_set (i := 1) hN (se_fd0 h_law_signs ck_pure (hr.mono (show 1 ≤ 4 by decide)))) ?_;
    refine sb_cons (ss_for (g := (Tgt.nm 2)) (si_r1 T.b_range (sa_cons (se_callB (cd_max2 rfl) T.b_max (sa_cons se_int (sa_cons (se_callB (cd_min2 rfl) T.b_min (sa_cons se_int (sa_cons (se_callB cd_len T.b_len (sa_cons (se_var 0) sa_nil)) sa_nil))) sa_nil))) sa_nil)) (pg_name (i := 2) hN rfl (by first | exact .inl rfl | exact .inr rfl))
    (sb_cons (ss_set (i := 3) hN (se_fd h_law_bag ck_new (hr.mono (show 1 ≤ 4 by decide)) (sa_cons (se_var 0) (sa_cons (se_var 2) sa_nil))))
    (sb_one (ss_for (g := (Tgt.nm 4)) (si_r1 T.b_range (sa_cons se_int sa_nil)) (pg_name (i := 4) hN rfl (by first | exact .inl rfl | exact .inr rfl))
    (by
    refine sb_cons (ss_set (i := 5) hN (se_fd h_law_octets (ck_bagA 0) (hr.mono (show 2 ≤ 4 by decide)) (sa_cons (se_var 3) sa_nil))) ?_;
    refine sb_cons (ss_set (i := 6) hN (se_m PySem.F.slot_str_join PySem.F.type_str_join md_join (se_str (l := [])) (sa_cons (se_lc (own := [("at", 8)]) (g := (Tgt.nm 8)) hN (si_r1 T.b_range (sa_cons (se_fd h_law_take (ck_bagA 0) (hr.mono (show 1 ≤ 4 by decide)) (sa_cons (se_var 3) (sa_cons se_int sa_nil))) sa_nil)) (blkOk_by (N := ["script", "signs", "k", "bag", "turn", "numbers", "keeps", "kept", "at", "odd", "spoilt"]) (sc := defScope st_law) (by decide +kernel)) (by decide) (fun _ _ _ _ _ => (pg_name (i := 8) hN rfl (by first | exact .inl rfl | exact .inr rfl))) (fun _ _ _ _ _ => sts_nil) (fun _ _ _ _ _ => (se_ix (se_var 1) (se_fd h_law_take (ck_bagA 0) (hr.mono (show 1 ≤ 4 by decide)) (sa_cons (se_var 3) (sa_cons (se_callB cd_len T.b_len (sa_cons (se_var 1) sa_nil)) sa_nil)))))) sa_nil))) ?_;
    refine sb_cons (ss_set (i := 6) hN (se_ix (se_lst (by refine sa_cons (se_var 6) ?_; refine sa_cons (se_bin opd_add (se_var 6) (se_str (l := [94]))) ?_; refine sa_cons (se_str (l := [])) ?_; refine sa_cons (se_str (l := [47, 58, 64])) ?_; exact sa_nil)) (se_fd h_law_take (ck_bagA 0) (hr.mono (show 1 ≤ 4 by decide)) (sa_cons (se_var 3) (sa_cons se_int sa_nil))))) ?_;
    refine sb_cons (ss_set (i := 7) hN (se_callB (cd_repr hgd (room200 hr)) T.b_repr (sa_cons (se_var 5) sa_nil))) ?_;
    refine sb_cons (ss_if (st_cmp isb_eq (opd_neG hr.units) (se_fd h_law_outcome ck_pure (hr.mono (show 4 ≤ 4 by decide)) (sa_cons (se_var 5) (sa_cons (se_var 6) sa_nil))) (se_tup (sa_cons (se_str (l := [116, 111, 108, 100])) (sa_cons (se_fd h_law_due ck_pure (hr.mono (show 3 ≤ 4 by decide)) (sa_cons (se_var 5) (sa_cons (se_var 6) sa_nil))) sa_nil))))
    (sb_one (ss_ret se_bl))
    sb_nil) ?_;
    refine sb_cons (ss_if (sw_pt (sw_or (st_cmp isb_eq (opd_neG hr.units) (se_fd h_p_escaped2_D1 ck_pure (hr.mono (show 3 ≤ 4 by decide)) (sa_cons (se_var 5) sa_nil)) (se_fd h_law_due ck_pure (hr.mono (show 3 ≤ 4 by decide)) (sa_cons (se_var 5) (sa_cons (se_str (l := [])) sa_nil)))) (sw_or1 (st_cmpB ((opd_neTx hr.units)) (se_callB (cd_repr hgd (room200 hr)) T.b_repr (sa_cons (se_var 5) sa_nil)) (se_var 7)))))
    (sb_one (ss_ret se_bl))
    sb_nil) ?_;
    refine sb_cons (ss_if (st_cmp isb_eq (opd_neG hr.units) (se_fdK h_p_escaped2_Kkeep ck_pure (hr.mono (show 3 ≤ 4 by decide)) (sa_cons (se_var 5) sa_nil) (sk_cons (se_var 1) sk_nil)) (se_fd h_law_due ck_pure (hr.mono (show 3 ≤ 4 by decide)) (sa_cons (se_var 5) (sa_cons (se_var 1) sa_nil))))
    (sb_one (ss_ret se_bl))
    sb_nil) ?_;
    refine sb_cons (ss_set (i := 8) hN (se_fd h_law_take (ck_bagA 0) (hr.mono (show 1 ≤ 4 by decide)) (sa_cons (se_var 3) (sa_cons (se_bin opd_add (se_callB cd_len T.b_len (sa_cons (se_var 5) sa_nil)) se_int) sa_nil)))) ?_;
    refine sb_cons (ss_set (i := 9) hN (se_ix (se_lst (by refine sa_cons (se_neg se_int) ?_; refine sa_cons se_int ?_; refine sa_cons se_bl ?_; refine sa_cons se_non ?_; refine sa_cons (se_str (l := [97])) ?_; refine sa_cons (se_bin opd_pow se_int se_int) ?_; refine sa_cons (se_lst sa_nil) ?_; refine sa_cons (se_tup (sa_cons se_int sa_nil)) ?_; exact sa_nil)) (se_fd h_law_take (ck_bagA 0) (hr.mono (show 1 ≤ 4 by decide)) (sa_cons (se_var 3) (sa_cons se_int sa_nil))))) ?_;
    refine sb_cons (ss_set (i := 10) hN (se_bin opd_add (se_bin opd_add (se_bin opd_add (se_slice (se_var 5) so_no (so_some (se_var 8))) (se_lst (sa_cons (se_var 9) sa_nil))) (se_slice (se_var 5) (so_some (se_var 8)) so_no)) (se_ix (se_lst (sa_cons (se_lst sa_nil) (sa_cons (se_lst (sa_cons se_bl sa_nil)) sa_nil))) (se_fd h_law_take (ck_bagA 0) (hr.mono (show 1 ≤ 4 by decide)) (sa_cons (se_var 3) (sa_cons se_int sa_nil)))))) ?_;
    exact sb_one (ss_if (st_cmp isb_eq (opd_neG hr.units) (se_fd h_law_outcome ck_pure (hr.mono (show 4 ≤ 4 by decide)) (sa_cons (se_var 10) (sa_cons (se_var 6) sa_nil))) (se_tup (sa_cons (se_str (l := [119, 114, 111, 110, 103])) (sa_cons (se_var 8) sa_nil))))
    (sb_one (ss_ret se_bl))
    sb_nil)))))) ?_;
    exact sb_one (ss_ret (se_and (se_cmp (opd_eqG hr.units) (se_fd h_p_escaped2_D1 ck_pure (hr.mono (show 3 ≤ 4 by decide)) (sa_cons (se_lst sa_nil) sa_nil)) (se_str (l := []))) (se_one (se_cmp (opd_eqG hr.units) (se_fdK h_p_escaped2_Kkeep ck_pure (hr.mono (show 3 ≤ 4 by decide)) (sa_cons (se_lst (by refine sa_cons se_int ?_; refine sa_cons se_int ?_; refine sa_cons se_int ?_; exact sa_nil)) sa_nil) (sk_cons (se_str (l := [94])) sk_nil)) (se_str (l := [94, 53, 69, 126, 94, 50, 53])))))))

end L3

namespace L3
open PySem PySem.Spec PyProof.Rows L2 Evl
open Classical
theorem ok_p_escape_of {P : Program} {w : World} {K : PySem.W.Frag} {mg : Str → Option Value} {base : Heap} (T : Txt w K mg)  {f : Addr} {fd : FuncData} (F : FnP K "escape_of" "escape_of" st_p_escape_of [] [] f fd) : FnOk P w K mg base (L2.CX P w) 1 f fd ["octet"] (spOf K mg sp_p_escape_of) :=
  fn_anyD F sc_p_escape_of end_g (fun ds M K0 R0 h => by repeat (first | (obtain ⟨rfl, _⟩ := h; rfl) | obtain ⟨_, h⟩ := h)) (bd_p_escape_of T  f) sem_p_escape_of
theorem ok_p_is_octet2 {P : Program} {w : World} {K : PySem.W.Frag} {mg : Str → Option Value} {base : Heap} (T : Txt w K mg)  {f : Addr} {fd : FuncData} (F : FnP K "is_octet" "is_octet" st_p_is_octet2 [] [] f fd) : FnOk P w K mg base (L2.CX P w) 1 f fd ["thing"] (spOf K mg sp_p_is_octet2) :=
  fn_anyD F sc_p_is_octet2 end_g (fun ds M K0 R0 h => by repeat (first | (obtain ⟨rfl, _⟩ := h; rfl) | obtain ⟨_, h⟩ := h)) (bd_p_is_octet2 T  f) sem_p_is_octet2
theorem ok_p_sign_or_escape {P : Program} {w : World} {K : PySem.W.Frag} {mg : Str → Option Value} {base : Heap} (T : Txt w K mg) (h_p_escape_of : FD P w K mg base "escape_of" 1 sp_p_escape_of []) {f : Addr} {fd : FuncData} (F : FnP K "sign_or_escape" "sign_or_escape" st_p_sign_or_escape [] [] f fd) : FnOk P w K mg base (L2.CX P w) 2 f fd ["octet", "stays"] (spOf K mg sp_p_sign_or_escape) :=
  fn_anyD F sc_p_sign_or_escape end_g (fun ds M K0 R0 h => by repeat (first | (obtain ⟨rfl, _⟩ := h; rfl) | obtain ⟨_, h⟩ := h)) (bd_p_sign_or_escape T h_p_escape_of f) sem_p_sign_or_escape
theorem ok_p_escaped2 {P : Program} {w : World} {K : PySem.W.Frag} {mg : Str → Option Value} {base : Heap} (T : Txt w K mg) (h_p_is_octet2 : FD P w K mg base "is_octet" 1 sp_p_is_octet2 []) (h_p_sign_or_escape : FD P w K mg base "sign_or_escape" 2 sp_p_sign_or_escape []) (hx_NoOctet : FX P w K mg base "NoOctet" "place") {f : Addr} {fd : FuncData} (F : FnP K "escaped" "escaped" st_p_escaped2 [] [("keep", V.str "")] f fd) : FnOk P w K mg base (L2.CX P w) 3 f fd ["numbers", "keep"] (spOf K mg sp_p_escaped2) :=
  fn_anyD F sc_p_escaped2 end_g (fun ds M K0 R0 h => by repeat (first | (obtain ⟨rfl, _⟩ := h; rfl) | obtain ⟨_, h⟩ := h)) (bd_p_escaped2 T h_p_is_octet2 h_p_sign_or_escape hx_NoOctet f) sem_p_escaped2
theorem ok_law_bag {P : Program} {w : World} {K : PySem.W.Frag} {mg : Str → Option Value} {base : Heap} (T : Txt w K mg)  {f : Addr} {fd : FuncData} (F : FnP K "_law_bag" "_law_bag" st_law_bag [] [] f fd) : FnOk P w K mg base (L2.CX P w) 1 f fd ["script", "at"] (spOf K mg sp_law_bag) :=
  fn_anyD F sc_law_bag end_n (fun ds M K0 R0 h => by repeat (first | (obtain ⟨rfl, _⟩ := h; rfl) | obtain ⟨_, h⟩ := h)) (bd_law_bag T  f) sem_law_bag
theorem ok_law_take {P : Program} {w : World} {K : PySem.W.Frag} {mg : Str → Option Value} {base : Heap} (T : Txt w K mg)  {f : Addr} {fd : FuncData} (F : FnP K "_law_take" "_law_take" st_law_take [] [] f fd) : FnOk P w K mg base (L2.CX P w) 1 f fd ["bag", "many"] (spOf K mg sp_law_take) :=
  fn_anyD F sc_law_take end_g (fun ds M K0 R0 h => by repeat (first | (obtain ⟨rfl, _⟩ := h; rfl) | obtain ⟨_, h⟩ := h)) (bd_law_take T  f) sem_law_take
theorem ok_law_signs {P : Program} {w : World} {K : PySem.W.Frag} {mg : Str → Option Value} {base : Heap} (T : Txt w K mg)  {f : Addr} {fd : FuncData} (F : FnP K "_law_signs" "_law_signs" st_law_signs [] [] f fd) : FnOk P w K mg base (L2.CX P w) 1 f fd [] (spOf K mg sp_law_signs) :=
  fn_anyD F sc_law_signs end_g (fun ds M K0 R0 h => by repeat (first | (obtain ⟨rfl, _⟩ := h; rfl) | obtain ⟨_, h⟩ := h)) (bd_law_signs T  f) sem_law_signs
theorem ok_law_plain {P : Program} {w : World} {K : PySem.W.Frag} {mg : Str → Option Value} {base : Heap} (T : Txt w K mg)  {f : Addr} {fd : FuncData} (F : FnP K "_law_plain" "_law_plain" st_law_plain [] [] f fd) : FnOk P w K mg base (L2.CX P w) 1 f fd [] (spOf K mg sp_law_plain) :=
  fn_anyD F sc_law_plain end_g (fun ds M K0 R0 h => by repeat (first | (obtain ⟨rfl, _⟩ := h; rfl) | obtain ⟨_, h⟩ := h)) (bd_law_plain T  f) sem_law_plain
theorem ok_law_sign {P : Program} {w : World} {K : PySem.W.Frag} {mg : Str → Option Value} {base : Heap} (T : Txt w K mg) (h_law_signs : FD P w K mg base "_law_signs" 1 sp_law_signs []) {f : Addr} {fd : FuncData} (F : FnP K "_law_sign" "_law_sign" st_law_sign [] [] f fd) : FnOk P w K mg base (L2.CX P w) 2 f fd ["code"] (spOf K mg sp_law_sign) :=
  fn_anyD F sc_law_sign end_g (fun ds M K0 R0 h => by repeat (first | (obtain ⟨rfl, _⟩ := h; rfl) | obtain ⟨_, h⟩ := h)) (bd_law_sign T h_law_signs f) sem_law_sign
theorem ok_law_escape {P : Program} {w : World} {K : PySem.W.Frag} {mg : Str → Option Value} {base : Heap} (T : Txt w K mg)  {f : Addr} {fd : FuncData} (F : FnP K "_law_escape" "_law_escape" st_law_escape [] [] f fd) : FnOk P w K mg base (L2.CX P w) 1 f fd ["octet", "is_small"] (spOf K mg sp_law_escape) :=
  fn_anyD F sc_law_escape end_g (fun ds M K0 R0 h => by repeat (first | (obtain ⟨rfl, _⟩ := h; rfl) | obtain ⟨_, h⟩ := h)) (bd_law_escape T  f) sem_law_escape
theorem ok_law_due {P : Program} {w : World} {K : PySem.W.Frag} {mg : Str → Option Value} {base : Heap} (T : Txt w K mg) (h_law_sign : FD P w K mg base "_law_sign" 2 sp_law_sign []) (h_law_plain : FD P w K mg base "_law_plain" 1 sp_law_plain []) (h_law_escape : FD P w K mg base "_law_escape" 1 sp_law_escape []) {f : Addr} {fd : FuncData} (F : FnP K "_law_due" "_law_due" st_law_due [] [] f fd) : FnOk P w K mg base (L2.CX P w) 3 f fd ["numbers", "keeps"] (spOf K mg sp_law_due) :=
  fn_anyD F sc_law_due end_g (fun ds M K0 R0 h => by repeat (first | (obtain ⟨rfl, _⟩ := h; rfl) | obtain ⟨_, h⟩ := h)) (bd_law_due T h_law_sign h_law_plain h_law_escape f) sem_law_due
theorem ok_law_outcome {P : Program} {w : World} {K : PySem.W.Frag} {mg : Str → Option Value} {base : Heap} (T : Txt w K mg)  (h_p_escaped2_Kkeep : FDK P w K mg base "escaped" 3 sp_p_escaped2 1 ["keep"] gD_p_escaped2_Kkeep) (hx_NoOctet : FX P w K mg base "NoOctet" "place") {f : Addr} {fd : FuncData} (F : FnP K "_law_outcome" "_law_outcome" st_law_outcome [] [] f fd) : FnOk P w K mg base (L2.CX P w) 4 f fd ["numbers", "keeps"] (spOf K mg sp_law_outcome) :=
  fn_anyD F sc_law_outcome end_g (fun ds M K0 R0 h => by repeat (first | (obtain ⟨rfl, _⟩ := h; rfl) | obtain ⟨_, h⟩ := h)) (bd_law_outcome T h_p_escaped2_Kkeep hx_NoOctet f) sem_law_outcome
theorem ok_law_octets {P : Program} {w : World} {K : PySem.W.Frag} {mg : Str → Option Value} {base : Heap} (T : Txt w K mg) (h_law_signs : FD P w K mg base "_law_signs" 1 sp_law_signs []) (h_law_take : FD P w K mg base "_law_take" 1 sp_law_take []) {f : Addr} {fd : FuncData} (F : FnP K "_law_octets" "_law_octets" st_law_octets [] [] f fd) : FnOk P w K mg base (L2.CX P w) 2 f fd ["bag"] (spOf K mg sp_law_octets) :=
  fn_anyD F sc_law_octets end_g (fun ds M K0 R0 h => by repeat (first | (obtain ⟨rfl, _⟩ := h; rfl) | obtain ⟨_, h⟩ := h)) (bd_law_octets T h_law_signs h_law_take f) sem_law_octets
theorem ok_law {P : Program} {w : World} {K : PySem.W.Frag} {mg : Str → Option Value} {base : Heap} (T : Txt w K mg) (h_law_signs : FD P w K mg base "_law_signs" 1 sp_law_signs []) (h_law_bag : FD P w K mg base "_law_bag" 1 sp_law_bag []) (h_law_octets : FD P w K mg base "_law_octets" 2 sp_law_octets []) (h_law_take : FD P w K mg base "_law_take" 1 sp_law_take []) (h_law_outcome : FD P w K mg base "_law_outcome" 4 sp_law_outcome []) (h_law_due : FD P w K mg base "_law_due" 3 sp_law_due []) (h_p_escaped2_D1 : FD P w K mg base "escaped" 3 sp_p_escaped2 dv_p_escaped2_D1) (h_p_escaped2_Kkeep : FDK P w K mg base "escaped" 3 sp_p_escaped2 1 ["keep"] gD_p_escaped2_Kkeep) {f : Addr} {fd : FuncData} (F : FnP K "law" "law" st_law [] [] f fd) : FnG P w K mg base (L2.CX P w) 5 f fd ["script"] (spOf K mg sLaw) :=
  fn_anyG F sc_law end_g (fun ds M K0 R0 h => by repeat (first | (obtain ⟨rfl, _⟩ := h; rfl) | obtain ⟨_, h⟩ := h)) (bd_law T h_law_signs h_law_bag h_law_octets h_law_take h_law_outcome h_law_due h_p_escaped2_D1 h_p_escaped2_Kkeep f) sem_law
def dd0 : He5.DefA := ⟨fun K => He.ga K "escape_of", "escape_of", "escape_of", defArgs st_p_escape_of, defBody st_p_escape_of, defScope st_p_escape_of, [], []⟩
def dd1 : He5.DefA := ⟨fun K => He.ga K "is_octet", "is_octet", "is_octet", defArgs st_p_is_octet2, defBody st_p_is_octet2, defScope st_p_is_octet2, [], []⟩
def dd2 : He5.DefA := ⟨fun K => He.ga K "sign_or_escape", "sign_or_escape", "sign_or_escape", defArgs st_p_sign_or_escape, defBody st_p_sign_or_escape, defScope st_p_sign_or_escape, [], []⟩
def dd3 : He5.DefA := ⟨fun K => He.ga K "escaped", "escaped", "escaped", defArgs st_p_escaped2, defBody st_p_escaped2, defScope st_p_escaped2, [], [("keep", .str "")]⟩
def dd4 : He5.DefA := ⟨fun K => He.ga K "_law_bag", "_law_bag", "_law_bag", defArgs st_law_bag, defBody st_law_bag, defScope st_law_bag, [], []⟩
def dd5 : He5.DefA := ⟨fun K => He.ga K "_law_take", "_law_take", "_law_take", defArgs st_law_take, defBody st_law_take, defScope st_law_take, [], []⟩
def dd6 : He5.DefA := ⟨fun K => He.ga K "_law_signs", "_law_signs", "_law_signs", defArgs st_law_signs, defBody st_law_signs, defScope st_law_signs, [], []⟩
def dd7 : He5.DefA := ⟨fun K => He.ga K "_law_plain", "_law_plain", "_law_plain", defArgs st_law_plain, defBody st_law_plain, defScope st_law_plain, [], []⟩
def dd8 : He5.DefA := ⟨fun K => He.ga K "_law_sign", "_law_sign", "_law_sign", defArgs st_law_sign, defBody st_law_sign, defScope st_law_sign, [], []⟩
def dd9 : He5.DefA := ⟨fun K => He.ga K "_law_escape", "_law_escape", "_law_escape", defArgs st_law_escape, defBody st_law_escape, defScope st_law_escape, [], []⟩
def dd10 : He5.DefA := ⟨fun K => He.ga K "_law_due", "_law_due", "_law_due", defArgs st_law_due, defBody st_law_due, defScope st_law_due, [], []⟩
def dd11 : He5.DefA := ⟨fun K => He.ga K "_law_outcome", "_law_outcome", "_law_outcome", defArgs st_law_outcome, defBody st_law_outcome, defScope st_law_outcome, [], []⟩
def dd12 : He5.DefA := ⟨fun K => He.ga K "_law_octets", "_law_octets", "_law_octets", defArgs st_law_octets, defBody st_law_octets, defScope st_law_octets, [], []⟩
def dd13 : He5.DefA := ⟨fun K => He.ga K "law", "law", "law", defArgs st_law, defBody st_law, defScope st_law, [], []⟩
theorem sc_NoOctet___init__ : FnScope ["self", "place"] ["self", "place"] (defScope st_NoOctet___init__) := ⟨rfl, rfl, rfl, by decide +kernel, rfl, by decide +kernel, by decide +kernel⟩
theorem ok_NoOctet___init__ {P : Program} {w : World} {K : PySem.W.Frag} {mg : Str → Option Value} {base : Heap} {f : Addr} {fd : FuncData} (F : FnP K "__init__" "NoOctet.__init__" st_NoOctet___init__ [] [] f fd) : FnOk P w K mg base (L2.CX P w) 1 f fd ["self", "place"] (spIni K "place") :=
  ini_ok F sc_NoOctet___init__ fun cdv A outer s H E => pss_one (ps_gst (pe_var (i := 0) rfl (by first | exact Or.inl rfl | exact Or.inr (Or.inl rfl) | exact Or.inr (Or.inr rfl)) (by decide) (by decide)) (pe_var (i := 1) rfl (by first | exact Or.inl rfl | exact Or.inr (Or.inl rfl) | exact Or.inr (Or.inr rfl)) (by decide) (by decide)))
def dd14 : He5.DefA := ⟨fun K => He.ma K (He.ga K "NoOctet") "__init__", "__init__", "NoOctet.__init__", defArgs st_NoOctet___init__, defBody st_NoOctet___init__, defScope st_NoOctet___init__, [], []⟩
def fnL : List He5.DefA := ([dd0, dd1, dd2, dd3, dd4, dd5, dd6, dd7, dd8, dd9, dd10, dd11, dd12, dd13, dd14] : List He5.DefA)
def faL : List He.Fa := ([.free "abs", .free "bool", .free "enumerate", .free "int", .free "isinstance", .free "len", .free "max", .free "min", .free "ord", .free "range", .free "repr", .str "ESCAPE" "^", .int "MOST_OCTET" 255, .str "PLAIN" "-.0123456789ABCDEFGHIJKLMNOPQRSTUVWXYZ_abcdefghijklmnopqrstuvwxyz~", .glo "law", .glo "NoOctet", .glo "escape_of", .glo "is_octet", .glo "_law_bag", .glo "_law_take"] : List He.Fa) ++ ([.glo "_law_signs", .glo "_law_plain", .glo "_law_escape", .glo "sign_or_escape", .glo "_law_sign", .glo "_law_octets", .glo "escaped", .glo "_law_due", .glo "_law_outcome"] : List He.Fa)
def exL : List Chk := [exnB "NoOctet" "place" "TypeError"]
def tsL : List (Str × List Str) := []
abbrev RR : PySem.W.OpenRow := PySem.W.OpenLaw.row PySem.Challenge.rw_urlplaces_k02_octets_escaped
def looseL : List Str := (["NoOctet", "ESCAPE", "PLAIN", "MOST_OCTET", "escape_of", "is_octet", "sign_or_escape", "escaped", "_law_bag", "_law_take", "_law_signs", "_law_plain", "_law_sign", "_law_escape", "_law_due", "_law_outcome", "_law_octets"] : List Str)
abbrev hk : PySem.W.Hook := hookY 6 faL fnL tsL exL
def ob (s : PySem.W.SharedT) : AlY := seeY 6 faL fnL tsL exL (HandSHeadRun.getT s)
theorem ob_eq (s : PySem.W.SharedT) : ob s = hk.obs s.abs := seeY_eq (HandSHeadRun.getT_eq s)
theorem run_false (w : World) : HandSHeadRun.RunEq RR (PySem.W.view RR.prog [20]) hk ob 6000 looseL (w.withFollow "special-get-raises" false) := by
  intro os
  kernel_rfl
theorem run_true (w : World) : HandSHeadRun.RunEq RR (PySem.W.view RR.prog [20]) hk ob 6000 looseL (w.withFollow "special-get-raises" true) := by
  intro os
  kernel_rfl
theorem run (w : World) : HandSHeadRun.RunEq RR (PySem.W.view RR.prog [20]) hk ob 6000 looseL w := PySem.W.byRow2 "special-get-raises" (P := fun w => HandSHeadRun.RunEq RR (PySem.W.view RR.prog [20]) hk ob 6000 looseL w) run_false run_true w
set_option maxHeartbeats 8000000 in
theorem facts {P : Program} {w : World} {K : PySem.W.Frag} {h : Heap} {mg : Str → Option Value} {f : Addr} (X : K.In h) (G : h.Ns mainGlobals mg) (hfa : mg ("law" : Str) = some (.ref f)) (c : lookY faL fnL tsL exL K = saidY fnL tsL w) :
    ∃ fd : FuncData, (∀ (s : Shared) (v : Value), BindsTo s fd ⟨[v], []⟩ [("script", v)]) ∧ ∀ base : Heap, K.In base → base.Ns mainGlobals mg → FnG P w K mg base (L2.CX P w) 5 f fd ["script"] (spLaw K) := by
  have T : Txt w K mg := ⟨He.free_ok X G (y_fact c 0 (f := .free "abs") rfl), He.free_ok X G (y_fact c 1 (f := .free "bool") rfl), He.free_ok X G (y_fact c 2 (f := .free "enumerate") rfl), He.free_ok X G (y_fact c 3 (f := .free "int") rfl), He.free_ok X G (y_fact c 4 (f := .free "isinstance") rfl), He.free_ok X G (y_fact c 5 (f := .free "len") rfl), He.free_ok X G (y_fact c 6 (f := .free "max") rfl), He.free_ok X G (y_fact c 7 (f := .free "min") rfl), He.free_ok X G (y_fact c 8 (f := .free "ord") rfl), He.free_ok X G (y_fact c 9 (f := .free "range") rfl), He.free_ok X G (y_fact c 10 (f := .free "repr") rfl), He.str_ok X G (y_fact c 11 (f := .str "ESCAPE" "^") rfl), He.int_ok X G (y_fact c 12 (f := .int "MOST_OCTET" 255) rfl), He.str_ok X G (y_fact c 13 (f := .str "PLAIN" "-.0123456789ABCDEFGHIJKLMNOPQRSTUVWXYZ_abcdefghijklmnopqrstuvwxyz~") rfl)⟩
  obtain ⟨fd0, F0⟩ := y_def c 0 (d := dd0) rfl
  have F0 : FnP K "escape_of" "escape_of" st_p_escape_of [] [] (He.ga K "escape_of") fd0 := F0
  obtain ⟨fd1, F1⟩ := y_def c 1 (d := dd1) rfl
  have F1 : FnP K "is_octet" "is_octet" st_p_is_octet2 [] [] (He.ga K "is_octet") fd1 := F1
  obtain ⟨fd2, F2⟩ := y_def c 2 (d := dd2) rfl
  have F2 : FnP K "sign_or_escape" "sign_or_escape" st_p_sign_or_escape [] [] (He.ga K "sign_or_escape") fd2 := F2
  obtain ⟨fd3, F3⟩ := y_def c 3 (d := dd3) rfl
  have F3 : FnP K "escaped" "escaped" st_p_escaped2 [] [("keep", V.str "")] (He.ga K "escaped") fd3 := F3
  obtain ⟨fd4, F4⟩ := y_def c 4 (d := dd4) rfl
  have F4 : FnP K "_law_bag" "_law_bag" st_law_bag [] [] (He.ga K "_law_bag") fd4 := F4
  obtain ⟨fd5, F5⟩ := y_def c 5 (d := dd5) rfl
  have F5 : FnP K "_law_take" "_law_take" st_law_take [] [] (He.ga K "_law_take") fd5 := F5
  obtain ⟨fd6, F6⟩ := y_def c 6 (d := dd6) rfl
  have F6 : FnP K "_law_signs" "_law_signs" st_law_signs [] [] (He.ga K "_law_signs") fd6 := F6
  obtain ⟨fd7, F7⟩ := y_def c 7 (d := dd7) rfl
  have F7 : FnP K "_law_plain" "_law_plain" st_law_plain [] [] (He.ga K "_law_plain") fd7 := F7
  obtain ⟨fd8, F8⟩ := y_def c 8 (d := dd8) rfl
  have F8 : FnP K "_law_sign" "_law_sign" st_law_sign [] [] (He.ga K "_law_sign") fd8 := F8
  obtain ⟨fd9, F9⟩ := y_def c 9 (d := dd9) rfl
  have F9 : FnP K "_law_escape" "_law_escape" st_law_escape [] [] (He.ga K "_law_escape") fd9 := F9
  obtain ⟨fd10, F10⟩ := y_def c 10 (d := dd10) rfl
  have F10 : FnP K "_law_due" "_law_due" st_law_due [] [] (He.ga K "_law_due") fd10 := F10
  obtain ⟨fd11, F11⟩ := y_def c 11 (d := dd11) rfl
  have F11 : FnP K "_law_outcome" "_law_outcome" st_law_outcome [] [] (He.ga K "_law_outcome") fd11 := F11
  obtain ⟨fd12, F12⟩ := y_def c 12 (d := dd12) rfl
  have F12 : FnP K "_law_octets" "_law_octets" st_law_octets [] [] (He.ga K "_law_octets") fd12 := F12
  obtain ⟨fd13, F13⟩ := y_def c 13 (d := dd13) rfl
  have F13 : FnP K "law" "law" st_law [] [] (He.ga K "law") fd13 := F13
  have e := hfa.symm.trans (He.glo_ok X G (y_fact c 14 (f := .glo "law") rfl))
  cases e
  have b := FunD.bindsA (ps := ["script"]) F13 fun _ _ _ _ _ _ us hl => match us, hl with | [_], _ => rfl
  refine ⟨fd13, fun s v => b s [v] rfl, fun base _ _ => ?_⟩
  obtain ⟨fd14, F14⟩ := y_def c 14 (d := dd14) rfl
  have F14 : FnP K "__init__" "NoOctet.__init__" st_NoOctet___init__ [] [] (He.ma K (He.ga K "NoOctet") "__init__") fd14 := F14
  have hx_NoOctet : FX P w K mg base "NoOctet" "place" := exnB_ok (y_chk c 0 (f := exnB "NoOctet" "place" "TypeError") rfl) exTE stTE (He.glo_ok X G (y_fact c 15 (f := .glo "NoOctet") rfl)) (ok_NoOctet___init__ F14) (FunD.bindsN (ps := ["self", "place"]) F14 fun _ _ _ _ _ _ us hl => match us, hl with | [_, _], _ => rfl)
  have o0 := ok_p_escape_of (P := P) (w := w) (base := base) T  F0
  have h_p_escape_of : FD P w K mg base "escape_of" 1 sp_p_escape_of [] := fd_plain o0 (He.glo_ok X G (y_fact c 16 (f := .glo "escape_of") rfl)) F0.kp (FunD.bindsN (ps := ["octet"]) F0 fun _ _ _ _ _ _ us hl => match us, hl with | [_], _ => rfl)
  have o1 := ok_p_is_octet2 (P := P) (w := w) (base := base) T  F1
  have h_p_is_octet2 : FD P w K mg base "is_octet" 1 sp_p_is_octet2 [] := fd_plain o1 (He.glo_ok X G (y_fact c 17 (f := .glo "is_octet") rfl)) F1.kp (FunD.bindsN (ps := ["thing"]) F1 fun _ _ _ _ _ _ us hl => match us, hl with | [_], _ => rfl)
  have o4 := ok_law_bag (P := P) (w := w) (base := base) T  F4
  have h_law_bag : FD P w K mg base "_law_bag" 1 sp_law_bag [] := fd_plain o4 (He.glo_ok X G (y_fact c 18 (f := .glo "_law_bag") rfl)) F4.kp (FunD.bindsN (ps := ["script", "at"]) F4 fun _ _ _ _ _ _ us hl => match us, hl with | [_, _], _ => rfl)
  have o5 := ok_law_take (P := P) (w := w) (base := base) T  F5
  have h_law_take : FD P w K mg base "_law_take" 1 sp_law_take [] := fd_plain o5 (He.glo_ok X G (y_fact c 19 (f := .glo "_law_take") rfl)) F5.kp (FunD.bindsN (ps := ["bag", "many"]) F5 fun _ _ _ _ _ _ us hl => match us, hl with | [_, _], _ => rfl)
  have o6 := ok_law_signs (P := P) (w := w) (base := base) T  F6
  have h_law_signs : FD P w K mg base "_law_signs" 1 sp_law_signs [] := fd_plain o6 (He.glo_ok X G (y_fact c 20 (f := .glo "_law_signs") rfl)) F6.kp (FunD.bindsN (ps := []) F6 fun _ _ _ _ _ _ us hl => match us, hl with | [], _ => rfl)
  have o7 := ok_law_plain (P := P) (w := w) (base := base) T  F7
  have h_law_plain : FD P w K mg base "_law_plain" 1 sp_law_plain [] := fd_plain o7 (He.glo_ok X G (y_fact c 21 (f := .glo "_law_plain") rfl)) F7.kp (FunD.bindsN (ps := []) F7 fun _ _ _ _ _ _ us hl => match us, hl with | [], _ => rfl)
  have o9 := ok_law_escape (P := P) (w := w) (base := base) T  F9
  have h_law_escape : FD P w K mg base "_law_escape" 1 sp_law_escape [] := fd_plain o9 (He.glo_ok X G (y_fact c 22 (f := .glo "_law_escape") rfl)) F9.kp (FunD.bindsN (ps := ["octet", "is_small"]) F9 fun _ _ _ _ _ _ us hl => match us, hl with | [_, _], _ => rfl)
  have o2 := ok_p_sign_or_escape (P := P) (w := w) (base := base) T h_p_escape_of F2
  have h_p_sign_or_escape : FD P w K mg base "sign_or_escape" 2 sp_p_sign_or_escape [] := fd_plain o2 (He.glo_ok X G (y_fact c 23 (f := .glo "sign_or_escape") rfl)) F2.kp (FunD.bindsN (ps := ["octet", "stays"]) F2 fun _ _ _ _ _ _ us hl => match us, hl with | [_, _], _ => rfl)
  have o8 := ok_law_sign (P := P) (w := w) (base := base) T h_law_signs F8
  have h_law_sign : FD P w K mg base "_law_sign" 2 sp_law_sign [] := fd_plain o8 (He.glo_ok X G (y_fact c 24 (f := .glo "_law_sign") rfl)) F8.kp (FunD.bindsN (ps := ["code"]) F8 fun _ _ _ _ _ _ us hl => match us, hl with | [_], _ => rfl)
  have o12 := ok_law_octets (P := P) (w := w) (base := base) T h_law_signs h_law_take F12
  have h_law_octets : FD P w K mg base "_law_octets" 2 sp_law_octets [] := fd_plain o12 (He.glo_ok X G (y_fact c 25 (f := .glo "_law_octets") rfl)) F12.kp (FunD.bindsN (ps := ["bag"]) F12 fun _ _ _ _ _ _ us hl => match us, hl with | [_], _ => rfl)
  have o3 := ok_p_escaped2 (P := P) (w := w) (base := base) T h_p_is_octet2 h_p_sign_or_escape hx_NoOctet F3
  have h_p_escaped2_Kkeep : FDK P w K mg base "escaped" 3 sp_p_escaped2 1 ["keep"] gD_p_escaped2_Kkeep := by
    obtain ⟨mv, B⟩ := FunD.kbinds0 (ps := ["numbers", "keep"]) F3 1 ["keep"] [] (fun us _ ws => us ++ ws) (List.cons_ne_nil _ _) (fun _ h => nomatch h) (fun r1 _ r3 => r1.append r3) fun _ _ _ _ _ _ us mv ws h1 h2 h3 => match us, ws, h1, h3 with | [_], [_], _, _ => rfl
    exact fd_kw o3 (He.glo_ok X G (y_fact c 26 (f := .glo "escaped") rfl)) F3.kp B fun a b => Paired.app a b
  have h_p_escaped2_D1 : FD P w K mg base "escaped" 3 sp_p_escaped2 dv_p_escaped2_D1 := fd_dfl o3 (He.glo_ok X G (y_fact c 26 (f := .glo "escaped") rfl)) F3.kp (FunD.binds0 (ps := ["numbers", "keep"]) F3 1 (List.cons_ne_nil _ _) rfl fun _ _ _ _ _ _ us ks h1 h2 => match us, ks, h1, h2 with | [_], [_], _, _ => ⟨_, _, _, _, _, _, rfl, rfl, rfl⟩) (fun _ _ => .cons (.str [] (asc_by rfl)) .nil)
  have o10 := ok_law_due (P := P) (w := w) (base := base) T h_law_sign h_law_plain h_law_escape F10
  have h_law_due : FD P w K mg base "_law_due" 3 sp_law_due [] := fd_plain o10 (He.glo_ok X G (y_fact c 27 (f := .glo "_law_due") rfl)) F10.kp (FunD.bindsN (ps := ["numbers", "keeps"]) F10 fun _ _ _ _ _ _ us hl => match us, hl with | [_, _], _ => rfl)
  have o11 := ok_law_outcome (P := P) (w := w) (base := base) T h_p_escaped2_Kkeep hx_NoOctet F11
  have h_law_outcome : FD P w K mg base "_law_outcome" 4 sp_law_outcome [] := fd_plain o11 (He.glo_ok X G (y_fact c 28 (f := .glo "_law_outcome") rfl)) F11.kp (FunD.bindsN (ps := ["numbers", "keeps"]) F11 fun _ _ _ _ _ _ us hl => match us, hl with | [_, _], _ => rfl)
  have o13 := ok_law (P := P) (w := w) (base := base) T h_law_signs h_law_bag h_law_octets h_law_take h_law_outcome h_law_due h_p_escaped2_D1 h_p_escaped2_Kkeep F13
  exact law_fnG o13
end L3
open PySem PySem.W PySem.Calls PyProof.Rows
theorem PySem.Challenge.cw_urlplaces_k02_octets_escaped_holds : PySem.Challenge.rw_urlplaces_k02_octets_escaped.Holds := by
  w_on; o_law
  refine HandSHeadRun.head_any (r := OpenLaw.row PySem.Challenge.rw_urlplaces_k02_octets_escaped) (q := view (OpenLaw.row PySem.Challenge.rw_urlplaces_k02_octets_escaped).prog [20]) (H := L3.hk) (ob := L3.ob) (M := 6000) (loose := L3.looseL) (d := HandSHeadRun.topDef (OpenLaw.row PySem.Challenge.rw_urlplaces_k02_octets_escaped).prog 20) (kwd := []) L3.ob_eq
    (by kernel_rfl) (fun s => by kernel_rfl) L3.run (by kernel_rfl) (by kernel_rfl) (by kernel_rfl) (by rfl) (by first | assumption | decide +kernel) (by decide +kernel) ⟨rfl, rfl, rfl, rfl, rfl, by decide +kernel⟩ ?hw ?hc
  case hw => w_witness2
  case hc =>
    refine L3.walk_ofEwG (l := PySem.Challenge.rw_urlplaces_k02_octets_escaped) (n := 63) (k := 5) (x := "script") (CX := fun w => L2.CX PySem.Challenge.rw_urlplaces_k02_octets_escaped.prog w) rfl (by decide) (by kernel_rfl) ⟨rfl, by decide, by decide⟩ ?F (fun _ _ _ _ _ z => L3.cx_no z)
    intro w mg fa h Y G hmg0
    obtain ⟨K, KX, c⟩ := Y
    have hmg : mg ("law" : PySem.Str) = some (.ref fa) := by
      have e : (HandSHeadRun.topDef (OpenLaw.row PySem.Challenge.rw_urlplaces_k02_octets_escaped).prog 20).name = ("law" : PySem.Str) := by kernel_rfl
      rw [← e]
      exact hmg0
    obtain ⟨fd, hb, hF⟩ := L3.facts (P := PySem.Challenge.rw_urlplaces_k02_octets_escaped.prog) (w := w) KX G hmg c
    exact ⟨K, fd, L3.spLaw K, KX, hb, fun H a ns hl _ hS => ⟨a, ns, rfl, hS, hl, fun _ => rfl⟩, hF⟩
