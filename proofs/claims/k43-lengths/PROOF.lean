import PyProof.Rows.All
import Wide.All
import OpenK.AllK
import Wide.FinOn
import HandS.ForMost
import HandS.ForExc
import HandS.TupAny
import HandS.TupLe
import HandS.Deep
import HandS.IsInst
import HandS.Small
import HandS.Flow
import HandS.TryOnly
import HandS.Zip
import HandS.ExcOwn
import HandS.WordsExc
import HandS.StrMore
import PyProof.CallFns
import PyProof.ReprRoads
import HandS.Style
import PyProof.Rows.StrIntSpec
import PyProof.Rows.StrDigitsNeg
import PyProof.StrLawsRepr
import HandS.Zip0
import KE.GoesEnumKw
import PyProof.Rows.CallKwBuiltin
import HandS.SortKw
import KE.KExcSuper
import KE.KExcIs
import KE.KSuper
import HandS.ExcSuper
import HandS.ExcInit
import HandS.ExcField
import HandS.ExcIs
import HandS.Star
import HandS.Defaults
import PySem.Challenge.RW_sparewright_k43_lengths_and_tokens_of_pi
set_option Elab.async false
set_option linter.all false
set_option maxRecDepth 100000
/-! the D-layer: data, store, relations -/
namespace DL
open PySem L2

/-- a value as data; ref: a mutable object of the store; raw: anything else, as it is -/
inductive D where
  | non | bl (b : Bool) | int (i : Int) | str (x : Str) | tup (xs : List D) | ref (n : Nat) | raw (v : V)
/-- a mutable object (fz: the script, read alone) -/
inductive Cell where
  | lst (xs : List D) | fz (xs : List D) | dct (kvs : List (Key × D)) | ins (C : Addr) (fs : List (Str × D))
abbrev Sto := List Cell
abbrev Ev := List (Option D)
/-- an error by its class's name in the module -/
structure Exn where
  C : Str
  fs : List (Str × D)
inductive R (α : Type) where
  | stk | ok (a : α) (S : Sto) | ex (e : Exn) (S : Sto)
def isMut : Cell → Bool
  | .fz _ => false
  | _ => true

section
variable (K : PySem.W.Frag) (ι : List Addr) (H : Hp)
mutual
def RD : D → V → Prop
  | .non, v => v = .non
  | .bl b, v => v = .bl b
  | .int i, v => v = .int i
  | .str x, v => v = .str x
  | .tup xs, v => ∃ p vs, v = .ref p ∧ SqT K H p vs ∧ RDs xs vs
  | .ref n, v => ∃ p, v = .ref p ∧ ι[n]? = some p
  | .raw u, v => v = u
def RDs : List D → List V → Prop
  | [], vs => vs = []
  | d :: ds, vs => ∃ v r, vs = v :: r ∧ RD d v ∧ RDs ds r
end
def RKs {κ : Type} : List (κ × D) → List (κ × V) → Prop
  | [], vs => vs = []
  | (k, d) :: ds, vs => ∃ v r, vs = (k, v) :: r ∧ RD K ι H d v ∧ RKs ds r
def RC (p : Addr) : Cell → Prop
  | .lst ds => ∃ vs, H p = some (.lst vs) ∧ RDs K ι H ds vs
  | .fz ds => ∃ vs, ((∃ o, H p = some (.frz o (.lst vs))) ∨ ∀ H', SqL K H' p vs) ∧ RDs K ι H ds vs
  | .dct kvs => ∃ vs, H p = some (.dK vs) ∧ RKs K ι H kvs vs
  | .ins C fs => ∃ dx vs, H p = some (.ins C dx vs) ∧ RKs K ι H fs vs
structure RS (S : Sto) : Prop where
  len : ι.length = S.length
  at_ : ∀ (n : Nat) (c : Cell), S[n]? = some c → ∃ p, ι[n]? = some p ∧ RC K ι H p c
  inj : ∀ (n m : Nat) (p : Addr) (c c' : Cell), ι[n]? = some p → ι[m]? = some p → S[n]? = some c → S[m]? = some c' → isMut c = true → isMut c' = true → n = m
  sys : ∃ o y, H sysModules = some (.frz o (.own y))
/-- the names' slots -/
structure RE (ρ : Ev) (σ : L2.St) : Prop where
  len : ρ.length = σ.length
  at_ : ∀ (i : Nat) (d : D), ρ[i]? = some (some d) → ∃ v, σ[i]? = some (some v) ∧ RD K ι H d v
def clsAt (x : Str) (C : Addr) : Prop := PySem.W.nsIn K mainGlobals x = some (some (.ref C))
def RX (e : Exn) (cls : Value) (d : Option Addr) : Prop :=
  (∃ C, clsAt K e.C C ∧ cls = .ref C) ∧ ((d = none ∧ e.fs = []) ∨ ∃ dd vs, d = some dd ∧ H dd = some (.xd vs) ∧ RKs K ι H e.fs vs)
end
structure Ext (K : PySem.W.Frag) (ι : List Addr) (H : Hp) (ι' : List Addr) (H' : Hp) : Prop where
  pre : ι <+: ι'
  tup : ∀ a xs, SqT K H a xs → SqT K H' a xs
  xd : ∀ a l, H a = some (.xd l) → H' a = some (.xd l)

section
variable {K : PySem.W.Frag} {ι ι' ι'' : List Addr} {H H' H'' : Hp} {S S' : Sto} {ρ : Ev} {σ : L2.St}
theorem Ext.refl : Ext K ι H ι H := ⟨List.prefix_refl _, fun _ _ h => h, fun _ _ h => h⟩
theorem Ext.trans (a : Ext K ι H ι' H') (b : Ext K ι' H' ι'' H'') : Ext K ι H ι'' H'' := ⟨a.pre.trans b.pre, fun p xs h => b.tup p xs (a.tup p xs h), fun p l h => b.xd p l (a.xd p l h)⟩
theorem Ext.ix (a : Ext K ι H ι' H') {n : Nat} {p : Addr} (h : ι[n]? = some p) : ι'[n]? = some p := by
  obtain ⟨t, rfl⟩ := a.pre
  obtain ⟨hl, _⟩ := List.getElem?_eq_some_iff.mp h
  rw [List.getElem?_append_left hl]; exact h
mutual
theorem RD.mono (x : Ext K ι H ι' H') : ∀ {d : D} {v : V}, RD K ι H d v → RD K ι' H' d v
  | .non, v, h => by simpa only [RD] using h
  | .bl b, v, h => by simpa only [RD] using h
  | .int i, v, h => by simpa only [RD] using h
  | .str y, v, h => by simpa only [RD] using h
  | .raw u, v, h => by simpa only [RD] using h
  | .ref n, v, h => by
    simp only [RD] at h ⊢
    obtain ⟨p, e, q⟩ := h
    exact ⟨p, e, x.ix q⟩
  | .tup xs, v, h => by
    simp only [RD] at h ⊢
    obtain ⟨p, vs, e, q, r⟩ := h
    exact ⟨p, vs, e, x.tup _ _ q, RDs.mono x r⟩
theorem RDs.mono (x : Ext K ι H ι' H') : ∀ {ds : List D} {vs : List V}, RDs K ι H ds vs → RDs K ι' H' ds vs
  | [], vs, h => by simpa only [RDs] using h
  | d :: ds, vs, h => by
    simp only [RDs] at h ⊢
    obtain ⟨v, r, e, q, t⟩ := h
    exact ⟨v, r, e, RD.mono x q, RDs.mono x t⟩
end
theorem RKs.mono {κ : Type} (x : Ext K ι H ι' H') : ∀ {ds : List (κ × D)} {vs : List (κ × V)}, RKs K ι H ds vs → RKs K ι' H' ds vs
  | [], vs, h => by simpa only [RKs] using h
  | (k, d) :: ds, vs, h => by
    simp only [RKs] at h ⊢
    obtain ⟨v, r, e, q, t⟩ := h
    exact ⟨v, r, e, RD.mono x q, RKs.mono x t⟩
theorem RE.mono (x : Ext K ι H ι' H') (r : RE K ι H ρ σ) : RE K ι' H' ρ σ :=
  ⟨r.len, fun i d e => let ⟨v, a, b⟩ := r.at_ i d e; ⟨v, a, RD.mono x b⟩⟩
theorem RC.mono (x : Ext K ι H ι' H') {p : Addr} {c : Cell} (e : H' p = H p) (h : RC K ι H p c) : RC K ι' H' p c := by
  cases c with
  | lst ds => obtain ⟨vs, a, b⟩ := h; exact ⟨vs, by rw [e]; exact a, RDs.mono x b⟩
  | fz ds =>
    obtain ⟨vs, a, b⟩ := h
    refine ⟨vs, ?_, RDs.mono x b⟩
    rcases a with ⟨o, a⟩ | a
    · exact .inl ⟨o, by rw [e]; exact a⟩
    · exact .inr a
  | dct kvs => obtain ⟨vs, a, b⟩ := h; exact ⟨vs, by rw [e]; exact a, RKs.mono x b⟩
  | ins C fs => obtain ⟨dx, vs, a, b⟩ := h; exact ⟨dx, vs, by rw [e]; exact a, RKs.mono x b⟩
theorem RC.some_of {p : Addr} {c : Cell} (m : isMut c = true) (h : RC K ι H p c) : ∃ o, H p = some o ∧ (∀ xs, o ≠ .tup xs) ∧ (∀ b u, o ≠ .frz b u) ∧ Mut (some o) := by
  cases c with
  | lst ds => obtain ⟨vs, a, b⟩ := h; exact ⟨_, a, fun _ z => (by cases z), fun _ _ z => (by cases z), trivial⟩
  | fz ds => cases m
  | dct kvs => obtain ⟨vs, a, b⟩ := h; exact ⟨_, a, fun _ z => (by cases z), fun _ _ z => (by cases z), trivial⟩
  | ins C fs => obtain ⟨dx, vs, a, b⟩ := h; exact ⟨_, a, fun _ z => (by cases z), fun _ _ z => (by cases z), trivial⟩

/-- tuples stay where another kind of object is written -/
theorem sqT_upd {p : Addr} {o o' : HO} {a : Addr} {xs : List V} (e : H p = some o) (nt : ∀ xs, o ≠ .tup xs) (nf : ∀ b u, o ≠ .frz b u) (h : SqT K H a xs) : SqT K (upd H p o') a xs := by
  rcases h with (h | ⟨b, h⟩) | h
  · exact .inl (.inl (by rw [upd_ne (fun z => by subst z; rw [e] at h; exact nt _ (Option.some.inj h))]; exact h))
  · exact .inl (.inr ⟨b, by rw [upd_ne (fun z => by subst z; rw [e] at h; exact nf _ _ (Option.some.inj h))]; exact h⟩)
  · exact .inr h
theorem sqT_new {p : Addr} {o' : HO} {a : Addr} {xs : List V} (e : H p = none) (h : SqT K H a xs) : SqT K (upd H p o') a xs := by
  rcases h with (h | ⟨b, h⟩) | h
  · exact .inl (.inl (by rw [upd_ne (ne_of_none h e)]; exact h))
  · exact .inl (.inr ⟨b, by rw [upd_ne (ne_of_none h e)]; exact h⟩)
  · exact .inr h
theorem Ext.new {p : Addr} {o : HO} (e : H p = none) : Ext K ι H ι (upd H p o) := ⟨List.prefix_refl _, fun _ _ h => sqT_new e h, fun a _ h => by rw [upd_ne (ne_of_none h e)]; exact h⟩
theorem Ext.push {p : Addr} {o : HO} (e : H p = none) : Ext K ι H (ι ++ [p]) (upd H p o) := ⟨List.prefix_append _ _, fun _ _ h => sqT_new e h, fun a _ h => by rw [upd_ne (ne_of_none h e)]; exact h⟩
theorem Ext.put {p : Addr} {o o' : HO} (e : H p = some o) (nt : ∀ xs, o ≠ .tup xs) (nf : ∀ b u, o ≠ .frz b u) (nx : Mut (some o)) : Ext K ι H ι (upd H p o') := ⟨List.prefix_refl _, fun _ _ h => sqT_upd e nt nf h, fun a l h => by rw [upd_ne (fun z => by subst z; rw [e] at h; cases Option.some.inj h; exact nx)]; exact h⟩

theorem RC.ne {p q : Addr} {c : Cell} (h : RC K ι H q c) (e : H p = none) (x : Ext K ι H ι' H') (hk : ∀ b, b ≠ p → H' b = H b) : RC K ι' H' q c := by
  by_cases hqp : q = p
  · subst hqp
    cases c with
    | fz ds =>
      obtain ⟨vs, a, b⟩ := h
      rcases a with ⟨o, a⟩ | a
      · rw [e] at a; cases a
      · exact ⟨vs, .inr a, RDs.mono x b⟩
    | lst ds => obtain ⟨vs, a, b⟩ := h; rw [e] at a; cases a
    | dct ds => obtain ⟨vs, a, b⟩ := h; rw [e] at a; cases a
    | ins C ds => obtain ⟨dx, vs, a, b⟩ := h; rw [e] at a; cases a
  · exact h.mono x (hk q hqp)
theorem sys_new {p : Addr} {o : HO} (h : ∃ o y, H sysModules = some (.frz o (.own y))) (e : H p = none) : ∃ o' y, upd H p o sysModules = some (.frz o' (.own y)) := by
  obtain ⟨o', y, h⟩ := h
  exact ⟨o', y, by rw [upd_ne (fun z => by rw [z, e] at h; cases h)]; exact h⟩
theorem sys_put {p : Addr} {o o0 : HO} (h : ∃ o y, H sysModules = some (.frz o (.own y))) (e : H p = some o0) (nf : ∀ b u, o0 ≠ .frz b u) : ∃ o' y, upd H p o sysModules = some (.frz o' (.own y)) := by
  obtain ⟨o', y, h⟩ := h
  exact ⟨o', y, by rw [upd_ne (fun z => by rw [z, e] at h; exact nf _ _ (Option.some.inj h))]; exact h⟩
/-- an object that the store doesn't speak of is new -/
theorem RS.new {p : Addr} {o : HO} (r : RS K ι H S) (e : H p = none) : RS K ι (upd H p o) S :=
  ⟨r.len, fun n c h => let ⟨q, a, b⟩ := r.at_ n c h; ⟨q, a, b.ne e (.new e) fun _ hb => upd_ne hb⟩, r.inj, sys_new r.sys e⟩
/-- a new object of the store -/
theorem RS.push {p : Addr} {o : HO} {c : Cell} (r : RS K ι H S) (e : H p = none) (m : isMut c = true) (h : RC K (ι ++ [p]) (upd H p o) p c) : RS K (ι ++ [p]) (upd H p o) (S ++ [c]) := by
  have hl := r.len
  have key : ∀ n c', S[n]? = some c' → isMut c' = true → ι[n]? ≠ some p := fun n c' h1 h2 h3 => by
    obtain ⟨q, a, b⟩ := r.at_ n c' h1
    rw [h3] at a; cases a
    obtain ⟨o, ho, _⟩ := b.some_of h2
    rw [e] at ho; cases ho
  have lo : ∀ {n : Nat} {c' : Cell}, (S ++ [c])[n]? = some c' → (n < S.length ∧ S[n]? = some c') ∨ (n = S.length ∧ c' = c) := fun {n c'} h => by
    by_cases hn : n < S.length
    · rw [List.getElem?_append_left hn] at h; exact .inl ⟨hn, h⟩
    · rw [List.getElem?_append_right (Nat.le_of_not_lt hn)] at h
      have : n - S.length < 1 := by
        have := (List.getElem?_eq_some_iff.mp h).1
        simpa using this
      have e0 : n - S.length = 0 := by omega
      rw [e0] at h
      exact .inr ⟨by omega, (Option.some.inj h).symm⟩
  refine ⟨by simp [hl], fun n c' h' => ?_, fun n m' q c1 c2 h1 h2 h3 h4 m1 m2 => ?_, sys_new r.sys e⟩
  · rcases lo h' with ⟨hn, h'⟩ | ⟨rfl, rfl⟩
    · obtain ⟨q, a, b⟩ := r.at_ n c' h'
      exact ⟨q, by rw [List.getElem?_append_left (by omega)]; exact a, b.ne e (.push e) fun _ hb => upd_ne hb⟩
    · exact ⟨p, by rw [← hl]; simp, h⟩
  · rcases lo h3 with ⟨hn, g3⟩ | ⟨e3, f3⟩
    · rw [List.getElem?_append_left (by omega)] at h1
      rcases lo h4 with ⟨hm, g4⟩ | ⟨e4, f4⟩
      · rw [List.getElem?_append_left (by omega)] at h2
        exact r.inj n m' q c1 c2 h1 h2 g3 g4 m1 m2
      · rw [e4, ← hl] at h2
        simp at h2
        subst h2
        exact absurd h1 (key n c1 g3 m1)
    · rcases lo h4 with ⟨hm, g4⟩ | ⟨e4, f4⟩
      · rw [List.getElem?_append_left (by omega)] at h2
        rw [e3, ← hl] at h1
        simp at h1
        subst h1
        exact absurd h2 (key m' c2 g4 m2)
      · rw [e3, e4]
/-- an object of the store is written -/
theorem RS.put {n : Nat} {p : Addr} {o : HO} {c c' : Cell} (r : RS K ι H S) (hn : S[n]? = some c) (hp : ι[n]? = some p) (m : isMut c = true) (m' : isMut c' = true) (h : RC K ι (upd H p o) p c') : RS K ι (upd H p o) (S.set n c') := by
  obtain ⟨q, hq, hc⟩ := r.at_ n c hn
  rw [hp] at hq; cases hq
  obtain ⟨o0, ho, nt, nf, nx⟩ := hc.some_of m
  have hnl : n < S.length := (List.getElem?_eq_some_iff.mp hn).1
  refine ⟨by simp [r.len], fun k c1 h1 => ?_, fun k1 k2 q c1 c2 h1 h2 h3 h4 m1 m2 => ?_, sys_put r.sys ho nf⟩
  · by_cases hk : k = n
    · subst hk
      rw [List.getElem?_set_self hnl] at h1
      cases h1
      exact ⟨p, hp, h⟩
    · rw [List.getElem?_set_ne (Ne.symm hk)] at h1
      obtain ⟨q, a, b⟩ := r.at_ k c1 h1
      refine ⟨q, a, ?_⟩
      by_cases hqp : q = p
      · subst hqp
        cases hm : isMut c1 with
        | true => exact absurd (r.inj k n q c1 c a hp h1 hn hm m) hk
        | false =>
          cases c1 with
          | fz ds =>
            obtain ⟨vs, a', b'⟩ := b
            rcases a' with ⟨ob, a'⟩ | a'
            · rw [ho] at a'; exact absurd (Option.some.inj a') (nf _ _)
            · exact ⟨vs, .inr a', RDs.mono (.put ho nt nf nx) b'⟩
          | _ => cases hm
      · exact b.mono (.put ho nt nf nx) (upd_ne hqp)
  · have back : ∀ {k : Nat} {c1 : Cell}, (S.set n c')[k]? = some c1 → isMut c1 = true → ∃ c0, S[k]? = some c0 ∧ isMut c0 = true := fun {k c1} h hm => by
      by_cases hk : k = n
      · subst hk; exact ⟨c, hn, m⟩
      · rw [List.getElem?_set_ne (Ne.symm hk)] at h; exact ⟨c1, h, hm⟩
    obtain ⟨d1, e1, f1⟩ := back h3 m1
    obtain ⟨d2, e2, f2⟩ := back h4 m2
    exact r.inj k1 k2 q d1 d2 h1 h2 e1 e2 f1 f2

/-! ### lists of data -/
theorem RDs.length : ∀ {ds : List D} {vs : List V}, RDs K ι H ds vs → vs.length = ds.length
  | [], vs, h => by simp only [RDs] at h; subst h; rfl
  | d :: ds, vs, h => by
    simp only [RDs] at h
    obtain ⟨v, r, rfl, _, t⟩ := h
    simp [RDs.length t]
theorem RDs.get : ∀ {ds : List D} {vs : List V} {i : Nat} {d : D}, RDs K ι H ds vs → ds[i]? = some d → ∃ v, vs[i]? = some v ∧ RD K ι H d v
  | [], _, _, _, _, e => by simp at e
  | d :: ds, vs, 0, d', h, e => by
    simp only [RDs] at h
    obtain ⟨v, r, rfl, q, t⟩ := h
    simp at e; subst e
    exact ⟨v, rfl, q⟩
  | d :: ds, vs, i + 1, d', h, e => by
    simp only [RDs] at h
    obtain ⟨v, r, rfl, q, t⟩ := h
    simp at e
    obtain ⟨u, a, b⟩ := RDs.get t e
    exact ⟨u, by simpa using a, b⟩
theorem RDs.getV : ∀ {ds : List D} {vs : List V} {i : Nat} {v : V}, RDs K ι H ds vs → vs[i]? = some v → ∃ d, ds[i]? = some d ∧ RD K ι H d v := fun {ds vs i v} h e => by
  have hl := h.length
  have : i < ds.length := by rw [← hl]; exact (List.getElem?_eq_some_iff.mp e).1
  obtain ⟨u, a, b⟩ := h.get (List.getElem?_eq_getElem this)
  rw [e] at a; cases a
  exact ⟨_, List.getElem?_eq_getElem this, b⟩
theorem RDs.append : ∀ {ds es : List D} {vs us : List V}, RDs K ι H ds vs → RDs K ι H es us → RDs K ι H (ds ++ es) (vs ++ us)
  | [], es, vs, us, h, q => by simp only [RDs] at h; subst h; exact q
  | d :: ds, es, vs, us, h, q => by
    simp only [RDs] at h
    obtain ⟨v, r, rfl, a, t⟩ := h
    show RDs K ι H (d :: (ds ++ es)) (v :: (r ++ us))
    simp only [RDs]
    exact ⟨v, _, rfl, a, RDs.append t q⟩
theorem RDs.nil : RDs K ι H [] [] := by simp only [RDs]
theorem RDs.cons {d : D} {ds : List D} {v : V} {vs : List V} (a : RD K ι H d v) (b : RDs K ι H ds vs) : RDs K ι H (d :: ds) (v :: vs) := by
  simp only [RDs]; exact ⟨v, vs, rfl, a, b⟩
theorem RDs.take : ∀ (n : Nat) {ds : List D} {vs : List V}, RDs K ι H ds vs → RDs K ι H (ds.take n) (vs.take n)
  | 0, _, _, _ => by simp only [List.take_zero]; exact .nil
  | n + 1, [], vs, h => by simp only [RDs] at h; subst h; simp only [List.take_nil]; exact .nil
  | n + 1, d :: ds, vs, h => by
    simp only [RDs] at h
    obtain ⟨v, r, rfl, a, t⟩ := h
    exact .cons a (RDs.take n t)
theorem RDs.drop : ∀ (n : Nat) {ds : List D} {vs : List V}, RDs K ι H ds vs → RDs K ι H (ds.drop n) (vs.drop n)
  | 0, _, _, h => h
  | n + 1, [], vs, h => by simp only [RDs] at h; subst h; simp only [List.drop_nil]; exact .nil
  | n + 1, d :: ds, vs, h => by
    simp only [RDs] at h
    obtain ⟨v, r, rfl, a, t⟩ := h
    exact RDs.drop n t
theorem RDs.set : ∀ (n : Nat) {ds : List D} {vs : List V} {d : D} {v : V}, RDs K ι H ds vs → RD K ι H d v → RDs K ι H (ds.set n d) (vs.set n v)
  | _, [], vs, d, v, h, q => by simp only [RDs] at h; subst h; exact .nil
  | 0, d0 :: ds, vs, d, v, h, q => by
    simp only [RDs] at h
    obtain ⟨v0, r, rfl, a, t⟩ := h
    exact .cons q t
  | n + 1, d0 :: ds, vs, d, v, h, q => by
    simp only [RDs] at h
    obtain ⟨v0, r, rfl, a, t⟩ := h
    exact .cons a (RDs.set n t q)
theorem RDs.nil_iff {ds : List D} {vs : List V} (h : RDs K ι H ds vs) : vs = [] ↔ ds = [] := by
  have := h.length
  constructor
  · intro e; subst e; exact List.length_eq_zero_iff.mp (by simpa using this.symm)
  · intro e; subst e; exact List.length_eq_zero_iff.mp (by simpa using this)
theorem RDs.isEmpty {ds : List D} {vs : List V} (h : RDs K ι H ds vs) : vs.isEmpty = ds.isEmpty := by
  cases ds with
  | nil => simp only [RDs] at h; subst h; rfl
  | cons d ds => simp only [RDs] at h; obtain ⟨v, r, rfl, _⟩ := h; rfl
theorem RDs.ints : ∀ {ns : List Int} {vs : List V}, RDs K ι H (ns.map D.int) vs → vs = ns.map V.int
  | [], vs, h => by simpa only [List.map_nil, RDs] using h
  | n :: ns, vs, h => by
    simp only [List.map_cons, RDs, RD] at h
    obtain ⟨v, r, rfl, rfl, t⟩ := h
    rw [RDs.ints t]; rfl
theorem RDs.of_ints : ∀ ns : List Int, RDs K ι H (ns.map D.int) (ns.map V.int)
  | [] => .nil
  | n :: ns => .cons (by simp only [RD]) (RDs.of_ints ns)
end
end DL

/-! the D-layer: expressions -/
namespace DL
open PySem L2

def R.bind {α β : Type} (r : R α) (f : α → Sto → R β) : R β :=
  match r with
  | .stk => .stk
  | .ok a S => f a S
  | .ex e S => .ex e S
def ofO {α : Type} : Option (α × Sto) → R α
  | none => .stk
  | some (a, S) => .ok a S
@[simp] theorem bind_ok {α β : Type} (a : α) (S : Sto) (f : α → Sto → R β) : (R.ok a S).bind f = f a S := rfl
@[simp] theorem bind_stk {α β : Type} (f : α → Sto → R β) : (R.stk : R α).bind f = .stk := rfl
@[simp] theorem bind_ex {α β : Type} (e : Exn) (S : Sto) (f : α → Sto → R β) : (R.ex e S : R α).bind f = .ex e S := rfl
@[simp] theorem ofO_some {α : Type} (a : α) (S : Sto) : ofO (some (a, S)) = .ok a S := rfl
@[simp] theorem ofO_none {α : Type} : (ofO none : R α) = .stk := rfl

abbrev EM := Ev → Sto → R D
abbrev TM := Ev → Sto → R Bool
abbrev AM := Ev → Sto → R (List D)
abbrev Rel (α β : Type) := List Addr → Hp → α → β → Prop

section
variable {α β : Type} (K : PySem.W.Frag)
/-- what is wanted of a result -/
def PR (rel : Rel α β) (W : WX) (σ : L2.St) (ι : List Addr) (H : Hp) (Q : β → Hp → Prop) : R α → Prop
  | .stk => False
  | .ok d S' => ∀ ι' v H', Ext K ι H ι' H' → RS K ι' H' S' → rel ι' H' d v → Q v H'
  | .ex e S' => ∀ ι' H' cls dd, Ext K ι H ι' H' → RS K ι' H' S' → RX K ι' H' e cls dd → W cls dd σ H'
abbrev rD : Rel D V := fun ι H d v => RD K ι H d v
abbrev rB : Rel Bool Bool := fun _ _ b c => c = b
abbrev rDs : Rel (List D) (List V) := fun ι H d v => RDs K ι H d v
/-- the reading of a function of the slots and the store -/
def tG (rel : Rel α β) (W : WX) (m : Ev → Sto → R α) : L2.St → Hp → (β → Hp → Prop) → Prop := fun σ H Q =>
  ∃ ι ρ S, RE K ι H ρ σ ∧ RS K ι H S ∧ PR K rel W σ ι H Q (m ρ S)
end
abbrev tM (K : PySem.W.Frag) (W : WX) (m : EM) : TE := tG K (rD K) W m
abbrev tMT (K : PySem.W.Frag) (W : WX) (m : TM) : TT := tG K rB W m
abbrev tMA (K : PySem.W.Frag) (W : WX) (m : AM) : TA := tG K (rDs K) W m
/-- an expression is m -/
abbrev SE (X : Cx) (W : WX) (e : Expr) (m : EM) : Prop := PE X e (tM X.K W m)
abbrev SA (X : Cx) (W : WX) (es : List Expr) (m : AM) : Prop := PA X es (tMA X.K W m)

section
variable {α β : Type} {K : PySem.W.Frag} {ι ι' : List Addr} {H H' : Hp} {S : Sto} {ρ : Ev} {σ : L2.St} {W : WX}
theorem PR.mono {rel : Rel α β} {Q : β → Hp → Prop} (x : Ext K ι H ι' H') {r : R α} (h : PR K rel W σ ι H Q r) : PR K rel W σ ι' H' Q r := by
  cases r with
  | stk => exact h
  | ok d S' => exact fun ι2 v H2 x2 => h ι2 v H2 (x.trans x2)
  | ex e S' => exact fun ι2 H2 cls dd x2 => h ι2 H2 cls dd (x.trans x2)
theorem PR.imp {rel : Rel α β} {Q Q' : β → Hp → Prop} (q : ∀ v H, Q v H → Q' v H) {r : R α} (h : PR K rel W σ ι H Q r) : PR K rel W σ ι H Q' r := by
  cases r with
  | stk => exact h
  | ok d S' => exact fun ι2 v H2 x2 a b => q _ _ (h ι2 v H2 x2 a b)
  | ex e S' => exact h
/-- m, then k: what is known behind m -/
theorem PR.bind {α' β' : Type} {rel : Rel α β} {rel' : Rel α' β'} {Q : β' → Hp → Prop} {r : R α} {k : α → Sto → R α'} (h : PR K rel' W σ ι H Q (r.bind k)) :
    PR K rel W σ ι H (fun v H1 => ∃ ι1 d S1, Ext K ι H ι1 H1 ∧ RS K ι1 H1 S1 ∧ rel ι1 H1 d v ∧ PR K rel' W σ ι1 H1 Q (k d S1)) r := by
  cases r with
  | stk => exact h
  | ok d S' => exact fun ι2 v H2 x2 a b => ⟨ι2, d, S', x2, a, b, PR.mono x2 h⟩
  | ex e S' => exact h
theorem tG.bind {α' β' : Type} {rel : Rel α β} {rel' : Rel α' β'} {Q : β' → Hp → Prop} {m : Ev → Sto → R α} {k : α → Sto → R α'} (re : RE K ι H ρ σ) (rs : RS K ι H S) (h : PR K rel' W σ ι H Q ((m ρ S).bind k)) :
    tG K rel W m σ H (fun v H1 => ∃ ι1 d S1, Ext K ι H ι1 H1 ∧ RS K ι1 H1 S1 ∧ rel ι1 H1 d v ∧ PR K rel' W σ ι1 H1 Q (k d S1)) :=
  ⟨ι, ρ, S, re, rs, h.bind⟩
theorem tG.go {rel : Rel α β} {Q : β → Hp → Prop} {m : Ev → Sto → R α} (re : RE K ι H ρ σ) (rs : RS K ι H S) (h : PR K rel W σ ι H Q (m ρ S)) : tG K rel W m σ H Q := ⟨ι, ρ, S, re, rs, h⟩
/-- the value here and now -/
theorem PR.ret {rel : Rel α β} {Q : β → Hp → Prop} {d : α} {v : β} (h : PR K rel W σ ι H Q (.ok d S)) (rs : RS K ι H S) (r : rel ι H d v) : Q v H := h ι v H .refl rs r
end
section
variable {X : Cx}
theorem PE.imp {e : Expr} {t t' : TE} (h : PE X e t) (q : ∀ σ H Q, t' σ H Q → t σ H Q) : PE X e t' := ⟨fun pins s σ H Q I w => h.run pins s σ H Q I (q _ _ _ w)⟩
theorem PT.imp {e : Expr} {t t' : TT} (h : PT X e t) (q : ∀ σ H Q, t' σ H Q → t σ H Q) : PT X e t' := ⟨fun pins s σ H Q I w => h.run pins s σ H Q I (q _ _ _ w)⟩
theorem PA.imp {es : List Expr} {t t' : TA} (h : PA X es t) (q : ∀ σ H Q, t' σ H Q → t σ H Q) : PA X es t' := ⟨fun pos pins s σ H Q I w => h.run pos pins s σ H Q I (q _ _ _ w)⟩
theorem PS.imp {e : Stmt} {t t' : TS} (h : PS X e t) (q : ∀ D σ H, t' D σ H → t D σ H) : PS X e t' := ⟨fun pins s σ H D I w => h.run pins s σ H D I (q _ _ _ w)⟩
theorem PSs.imp {e : List Stmt} {t t' : TS} (h : PSs X e t) (q : ∀ D σ H, t' D σ H → t D σ H) : PSs X e t' := ⟨fun pins s σ H D I w => h.run pins s σ H D I (q _ _ _ w)⟩
end

/-! ### names and constants -/
def mVar (i : Nat) : EM := fun ρ S => match ρ[i]? with
  | some (some d) => .ok d S
  | _ => .stk
def mC (d : D) : EM := fun _ S => .ok d S
section
variable {X : Cx} {W : WX} {pos : Pos}
theorem se_var (i : Nat) {x : Str} (hN : X.N[i]? = some x := by rfl) (hv : Vis X.env.scope x := by first | exact Or.inl rfl | exact Or.inr (Or.inl rfl) | exact Or.inr (Or.inr rfl)) (hd : (x == ("__debug__" : Str)) = false := by decide)
    (hcd : (x == ("__classdict__" : Str)) = false := by decide) : SE X W (.Name x pos) (mVar i) := by
  refine PE.imp (pe_var (i := i) hN hv hd hcd) fun σ H Q h => ?_
  obtain ⟨ι, ρ, S, re, rs, h⟩ := h
  unfold mVar at h
  split at h
  · rename_i d e
    obtain ⟨v, a, b⟩ := re.at_ i d e
    exact ⟨v, a, h.ret rs b⟩
  · exact h.elim
theorem tG_c {K : PySem.W.Frag} {σ : L2.St} {H : Hp} {Q : VK} {d : D} {v : V} (r : ∀ ι H, RD K ι H d v) (h : tM K W (mC d) σ H Q) : Q v H := by
  obtain ⟨ι, ρ, S, re, rs, h⟩ := h
  exact h.ret rs (r _ _)
theorem se_int {i : Int} {j : Nat} : SE X W (.Constant (.int i) j pos) (mC (.int i)) := PE.imp pe_int fun σ H Q h => tG_c (v := .int i) (fun _ _ => by simp only [RD]) h
theorem se_bl {b : Bool} {j : Nat} : SE X W (.Constant (.bool b) j pos) (mC (.bl b)) := PE.imp pe_bl fun σ H Q h => tG_c (v := .bl b) (fun _ _ => by simp only [RD]) h
theorem se_non {j : Nat} : SE X W (.Constant .none j pos) (mC .non) := PE.imp pe_non fun σ H Q h => tG_c (v := .non) (fun _ _ => by simp only [RD]) h
theorem se_str {x : Str} {j : Nat} : SE X W (.Constant (.str x) j pos) (mC (.str x)) := PE.imp pe_str fun σ H Q h => tG_c (v := .str x) (fun _ _ => by simp only [RD]) h
/-- a constant of the module -/
theorem se_glob {x : Str} {v : V} {d : D} {u : Value} (hg : Gl X x) (hm : X.mg x = some u) (r : RelV v u) (rd : ∀ ι H, RD X.K ι H d v) (hd : (x == ("__debug__" : Str)) = false := by decide) : SE X W (.Name x pos) (mC d) :=
  PE.imp (pe_glob hg hm r hd) fun σ H Q h => tG_c rd h
theorem se_gint {x : Str} {i : Int} (hg : Gl X x) (hm : ∃ t, X.mg x = some (.int i t)) (hd : (x == ("__debug__" : Str)) = false := by decide) : SE X W (.Name x pos) (mC (.int i)) := by
  obtain ⟨t, hm⟩ := hm
  exact se_glob (v := .int i) hg hm ⟨t, rfl⟩ (fun _ _ => by simp only [RD]) hd
theorem se_gstr {x : Str} {i : Str} (hg : Gl X x) (hm : ∃ t, X.mg x = some (.str i t)) (hd : (x == ("__debug__" : Str)) = false := by decide) : SE X W (.Name x pos) (mC (.str i)) := by
  obtain ⟨t, hm⟩ := hm
  exact se_glob (v := .str i) hg hm ⟨t, rfl⟩ (fun _ _ => by simp only [RD]) hd
end

/-! ### operators by values -/
/-- what is wanted of an operator's answer -/
def PV (K : PySem.W.Frag) (ι : List Addr) (H : Hp) (Q : VK) : Option (D × Sto) → Prop
  | none => False
  | some (d, S') => ∀ ι' v H', Ext K ι H ι' H' → RS K ι' H' S' → RD K ι' H' d v → Q v H'
abbrev DOp := D → D → Sto → Option (D × Sto)
abbrev DOps := List D → Sto → Option (D × Sto)
/-- the reading of a two-place operator on data -/
def rOp (K : PySem.W.Frag) (f : DOp) : R2 := fun a b H Q => ∃ ι S x y, RS K ι H S ∧ RD K ι H x a ∧ RD K ι H y b ∧ PV K ι H Q (f x y S)
def rOps (K : PySem.W.Frag) (f : DOps) : List V → Hp → VK → Prop := fun vs H Q => ∃ ι S xs, RS K ι H S ∧ RDs K ι H xs vs ∧ PV K ι H Q (f xs S)
theorem PV.of {K : PySem.W.Frag} {ι : List Addr} {H : Hp} {Q : VK} {W : WX} {σ : L2.St} {o : Option (D × Sto)} (h : PR K (rD K) W σ ι H Q (ofO o)) : PV K ι H Q o := by
  cases o with
  | none => exact h
  | some p => exact h
theorem PV.ret {K : PySem.W.Frag} {ι : List Addr} {H : Hp} {Q : VK} {d : D} {S : Sto} {v : V} (h : PV K ι H Q (some (d, S))) (rs : RS K ι H S) (r : RD K ι H d v) : Q v H := h ι v H .refl rs r

def mBin (f : DOp) (ma mb : EM) : EM := fun ρ S => (ma ρ S).bind fun x S1 => (mb ρ S1).bind fun y S2 => ofO (f x y S2)
def mUn (f : D → Sto → Option (D × Sto)) (ma : EM) : EM := fun ρ S => (ma ρ S).bind fun x S1 => ofO (f x S1)
section
variable {X : Cx} {W : WX} {pos : Pos} {a b : Expr} {ma mb : EM}
theorem bin_go {K : PySem.W.Frag} {f : DOp} {σ : L2.St} {H : Hp} {Q : VK} (h : tM K W (mBin f ma mb) σ H Q) : tOp (rOp K f) (tM K W ma) (tM K W mb) σ H Q := by
  obtain ⟨ι, ρ, S, re, rs, h⟩ := h
  refine ⟨ι, ρ, S, re, rs, PR.imp (fun v H1 hh => ?_) (PR.bind (rel := rD K) h)⟩
  obtain ⟨ι1, d, S1, x1, rs1, r1, h1⟩ := hh
  refine ⟨ι1, ρ, S1, re.mono x1, rs1, PR.imp (fun u H2 hh => ?_) (PR.bind (rel := rD K) h1)⟩
  obtain ⟨ι2, d2, S2, x2, rs2, r2, h2⟩ := hh
  exact ⟨ι2, S2, d, d2, rs2, RD.mono x2 r1, r2, PV.of h2⟩
theorem se_bin {op : Operator} {f : DOp} (ho : OpR X (binaryOp op) (rOp X.K f)) (ha : SE X W a ma) (hb : SE X W b mb) : SE X W (.BinOp a op b pos) (mBin f ma mb) :=
  PE.imp (pe_op ho ha hb) fun _ _ _ h => bin_go h
theorem se_cmp {op : CmpOp} {f : DOp} (ho : OpR X (compareOp op) (rOp X.K f)) (ha : SE X W a ma) (hb : SE X W b mb) (hm : behindInMarks op b = false) : SE X W (.Compare a [op] [b] pos) (mBin f ma mb) :=
  PE.imp (pe_cmpR ho ha hb hm) fun _ _ _ h => bin_go h
def rUn (K : PySem.W.Frag) (f : D → Sto → Option (D × Sto)) : V → Hp → VK → Prop := fun a H Q => ∃ ι S x, RS K ι H S ∧ RD K ι H x a ∧ PV K ι H Q (f x S)
theorem un_go {K : PySem.W.Frag} {f : D → Sto → Option (D × Sto)} {σ : L2.St} {H : Hp} {Q : VK} (h : tM K W (mUn f ma) σ H Q) : tUn (rUn K f) (tM K W ma) σ H Q := by
  obtain ⟨ι, ρ, S, re, rs, h⟩ := h
  refine ⟨ι, ρ, S, re, rs, PR.imp (fun v H1 hh => ?_) (PR.bind (rel := rD K) h)⟩
  obtain ⟨ι1, d, S1, x1, rs1, r1, h1⟩ := hh
  exact ⟨ι1, S1, d, rs1, r1, PV.of h1⟩
theorem se_un {op : UnaryOp} {f : D → Sto → Option (D × Sto)} (ho : UnR X (unaryOp op) (rUn X.K f)) (ha : SE X W a ma) : SE X W (.UnaryOp op a pos) (mUn f ma) :=
  PE.imp (pe_un ho ha) fun _ _ _ h => un_go h
end

/-! ### argument lists -/
def aNil : AM := fun _ S => .ok [] S
def aCons (m : EM) (r : AM) : AM := fun ρ S => (m ρ S).bind fun x S1 => (r ρ S1).bind fun xs S2 => .ok (x :: xs) S2
section
variable {X : Cx} {W : WX} {pos : Pos} {e : Expr} {es : List Expr} {m : EM} {ms : AM}
theorem sa_nil : SA X W [] aNil := PA.imp pa_nil fun σ H Q h => by
  obtain ⟨ι, ρ, S, re, rs, h⟩ := h
  exact h.ret rs RDs.nil
theorem sa_cons (he : SE X W e m) (hr : SA X W es ms) (hs : starEach (e :: es) X.env = (false, eval e X.env) :: starEach es X.env := by rfl) : SA X W (e :: es) (aCons m ms) := by
  refine PA.imp (pa_cons he hr hs) fun σ H Q h => ?_
  obtain ⟨ι, ρ, S, re, rs, h⟩ := h
  refine ⟨ι, ρ, S, re, rs, PR.imp (fun v H1 hh => ?_) (PR.bind (rel := rD X.K) h)⟩
  obtain ⟨ι1, d, S1, x1, rs1, r1, h1⟩ := hh
  refine ⟨ι1, ρ, S1, re.mono x1, rs1, PR.imp (fun u H2 hh => ?_) (PR.bind (rel := rDs X.K) h1)⟩
  obtain ⟨ι2, d2, S2, x2, rs2, r2, h2⟩ := hh
  exact h2.ret rs2 (.cons (RD.mono x2 r1) r2)

/-! ### displays -/
def alloc (c : Cell) (S : Sto) : D × Sto := (.ref S.length, S ++ [c])
def mTup (ms : AM) : EM := fun ρ S => (ms ρ S).bind fun xs S1 => if xs.length ≤ sizeLine then .ok (.tup xs) S1 else .stk
def mLst (ms : AM) : EM := fun ρ S => (ms ρ S).bind fun xs S1 => if xs.length ≤ sizeLine then .ok (.ref S1.length) (S1 ++ [.lst xs]) else .stk
/-- a new tuple, a new list -/
theorem new_tup {K : PySem.W.Frag} {ι : List Addr} {H : Hp} {Q : VK} {S : Sto} {xs : List D} {vs : List V} (rs : RS K ι H S) (r : RDs K ι H xs vs) (h : PV K ι H Q (some (.tup xs, S))) :
    ∀ p, H p = none → Q (.ref p) (upd H p (.tup vs)) := fun p hp => by
  refine h ι _ _ (.new hp) (rs.new hp) ?_
  simp only [RD]
  exact ⟨p, vs, rfl, .inl (.inl upd_same), RDs.mono (.new hp) r⟩
theorem new_lst {K : PySem.W.Frag} {ι : List Addr} {H : Hp} {Q : VK} {S : Sto} {xs : List D} {vs : List V} (rs : RS K ι H S) (r : RDs K ι H xs vs) (h : PV K ι H Q (some (.ref S.length, S ++ [.lst xs]))) :
    ∀ p, H p = none → Q (.ref p) (upd H p (.lst vs)) := fun p hp => by
  refine h (ι ++ [p]) _ _ (.push hp) (rs.push hp rfl ⟨vs, upd_same, RDs.mono (.push hp) r⟩) ?_
  simp only [RD]
  exact ⟨p, rfl, by rw [← rs.len]; simp⟩
theorem se_tup {x1 : Nat} (h : SA X W es ms) : SE X W (.Tuple es x1 pos) (mTup ms) := by
  refine PE.imp (pe_tup h) fun σ H Q h => ?_
  obtain ⟨ι, ρ, S, re, rs, h⟩ := h
  refine ⟨ι, ρ, S, re, rs, PR.imp (fun v H1 hh => ?_) (PR.bind (rel := rDs X.K) h)⟩
  obtain ⟨ι1, d, S1, x1, rs1, r1, h1⟩ := hh
  split at h1
  · rename_i hz
    exact ⟨by rw [r1.length]; exact hz, new_tup rs1 r1 (PV.of (o := some _) h1)⟩
  · exact h1.elim
theorem se_lst (h : SA X W es ms) : SE X W (.List es pos) (mLst ms) := by
  refine PE.imp (pe_lst h) fun σ H Q h => ?_
  obtain ⟨ι, ρ, S, re, rs, h⟩ := h
  refine ⟨ι, ρ, S, re, rs, PR.imp (fun v H1 hh => ?_) (PR.bind (rel := rDs X.K) h)⟩
  obtain ⟨ι1, d, S1, x1, rs1, r1, h1⟩ := hh
  split at h1
  · rename_i hz
    exact ⟨by rw [r1.length]; exact hz, new_lst rs1 r1 (PV.of (o := some _) h1)⟩
  · exact h1.elim
end
end DL

/-! the D-layer: tests and statements -/
namespace DL
open PySem L2

/-! ### sequences of the store -/
def seqAt (S : Sto) (n : Nat) : Option (List D) := match S[n]? with
  | some (.lst xs) => some xs
  | some (.fz xs) => some xs
  | _ => none
section
variable {K : PySem.W.Frag} {ι ι' : List Addr} {H H' : Hp} {S : Sto} {ρ : Ev} {σ : L2.St} {W : WX}
theorem RC.seqL {p : Addr} {xs : List D} {c : Cell} (hc : c = .lst xs ∨ c = .fz xs) (h : RC K ι H p c) : ∃ vs, SqL K H p vs ∧ RDs K ι H xs vs := by
  rcases hc with rfl | rfl
  · obtain ⟨vs, a, b⟩ := h; exact ⟨vs, .inl (.inl a), b⟩
  · obtain ⟨vs, a, b⟩ := h
    rcases a with ⟨o, a⟩ | a
    · exact ⟨vs, .inl (.inr ⟨o, a⟩), b⟩
    · exact ⟨vs, a H, b⟩
theorem RS.seq {n : Nat} {xs : List D} {v : V} (rs : RS K ι H S) (hn : seqAt S n = some xs) (hv : RD K ι H (.ref n) v) : ∃ p vs, v = .ref p ∧ ι[n]? = some p ∧ SqL K H p vs ∧ RDs K ι H xs vs := by
  simp only [RD] at hv
  obtain ⟨p, rfl, hp⟩ := hv
  unfold seqAt at hn
  split at hn
  · rename_i ys e
    cases hn
    obtain ⟨q, a, b⟩ := rs.at_ n _ e
    rw [hp] at a; cases a
    obtain ⟨vs, s, r⟩ := b.seqL (.inl rfl)
    exact ⟨p, vs, rfl, hp, s, r⟩
  · rename_i ys e
    cases hn
    obtain ⟨q, a, b⟩ := rs.at_ n _ e
    rw [hp] at a; cases a
    obtain ⟨vs, s, r⟩ := b.seqL (.inr rfl)
    exact ⟨p, vs, rfl, hp, s, r⟩
  · cases hn
theorem RS.lst {n : Nat} {xs : List D} {v : V} (rs : RS K ι H S) (hn : S[n]? = some (.lst xs)) (hv : RD K ι H (.ref n) v) : ∃ p vs, v = .ref p ∧ ι[n]? = some p ∧ H p = some (.lst vs) ∧ RDs K ι H xs vs := by
  simp only [RD] at hv
  obtain ⟨p, rfl, hp⟩ := hv
  obtain ⟨q, a, b⟩ := rs.at_ n _ hn
  rw [hp] at a; cases a
  obtain ⟨vs, s, r⟩ := b
  exact ⟨p, vs, rfl, hp, s, r⟩
theorem RS.dct {n : Nat} {xs : List (Key × D)} {v : V} (rs : RS K ι H S) (hn : S[n]? = some (.dct xs)) (hv : RD K ι H (.ref n) v) : ∃ p vs, v = .ref p ∧ ι[n]? = some p ∧ H p = some (.dK vs) ∧ RKs K ι H xs vs := by
  simp only [RD] at hv
  obtain ⟨p, rfl, hp⟩ := hv
  obtain ⟨q, a, b⟩ := rs.at_ n _ hn
  rw [hp] at a; cases a
  obtain ⟨vs, s, r⟩ := b
  exact ⟨p, vs, rfl, hp, s, r⟩
theorem RS.ins {n : Nat} {C : Addr} {xs : List (Str × D)} {v : V} (rs : RS K ι H S) (hn : S[n]? = some (.ins C xs)) (hv : RD K ι H (.ref n) v) : ∃ p dx vs, v = .ref p ∧ ι[n]? = some p ∧ H p = some (.ins C dx vs) ∧ RKs K ι H xs vs := by
  simp only [RD] at hv
  obtain ⟨p, rfl, hp⟩ := hv
  obtain ⟨q, a, b⟩ := rs.at_ n _ hn
  rw [hp] at a; cases a
  obtain ⟨dx, vs, s, r⟩ := b
  exact ⟨p, dx, vs, rfl, hp, s, r⟩
theorem RKs.length {κ : Type} : ∀ {ds : List (κ × D)} {vs : List (κ × V)}, RKs K ι H ds vs → vs.length = ds.length
  | [], vs, h => by simp only [RKs] at h; subst h; rfl
  | (k, d) :: ds, vs, h => by
    simp only [RKs] at h
    obtain ⟨v, r, rfl, _, t⟩ := h
    simp [RKs.length t]
theorem RKs.isEmpty {κ : Type} {ds : List (κ × D)} {vs : List (κ × V)} (h : RKs K ι H ds vs) : vs.isEmpty = ds.isEmpty := by
  cases ds with
  | nil => simp only [RKs] at h; subst h; rfl
  | cons d ds => obtain ⟨k, d⟩ := d; simp only [RKs] at h; obtain ⟨v, r, rfl, _⟩ := h; rfl
end

/-! ### truth -/
def dTru (d : D) (S : Sto) : Option Bool := match d with
  | .non => some false
  | .bl b => some b
  | .int i => some (i != 0)
  | .str x => if x.length ≤ sizeLine then some ((x.length : Int) != 0) else none
  | .tup xs => some (!xs.isEmpty)
  | .ref n => match S[n]? with
    | some (.lst xs) => some (!xs.isEmpty)
    | some (.fz xs) => some (!xs.isEmpty)
    | some (.dct kvs) => some (!kvs.isEmpty)
    | _ => none
  | .raw _ => none
def mTru (m : EM) : TM := fun ρ S => (m ρ S).bind fun d S1 => match dTru d S1 with
  | some b => .ok b S1
  | none => .stk
/-- the value must be a bool -/
def mTest (m : EM) : TM := fun ρ S => (m ρ S).bind fun d S1 => match d with
  | .bl b => .ok b S1
  | _ => .stk
section
variable {X : Cx} {W : WX} {pos : Pos} {a b c e : Expr} {m ma mb mc : EM} {t ta tb : TM}
abbrev ST (X : Cx) (W : WX) (e : Expr) (m : TM) : Prop := PT X e (tMT X.K W m)
abbrev SW (X : Cx) (W : WX) (e : Expr) (m : TM) : Prop := PW X e (tMT X.K W m)
theorem dTru_ok {K : PySem.W.Frag} {ι : List Addr} {H : Hp} {S : Sto} {d : D} {v : V} {k : Bool} (rs : RS K ι H S) (r : RD K ι H d v) (h : dTru d S = some k) : TruV K v H k := by
  cases d with
  | non => simp only [RD] at r; subst r; simp only [dTru, Option.some.injEq] at h; exact h.symm
  | bl b => simp only [RD] at r; subst r; simp only [dTru, Option.some.injEq] at h; exact h.symm
  | int i => simp only [RD] at r; subst r; simp only [dTru, Option.some.injEq] at h; exact h.symm
  | str x =>
    simp only [RD] at r; subst r
    simp only [dTru] at h
    split at h
    · rename_i hz
      exact ⟨hz, (Option.some.inj h).symm⟩
    · cases h
  | tup xs =>
    simp only [RD] at r
    obtain ⟨p, vs, rfl, q, t⟩ := r
    simp only [dTru, Option.some.injEq] at h
    exact .inr (.inl ⟨vs, q, by rw [t.isEmpty]; exact h.symm⟩)
  | ref n =>
    simp only [dTru] at h
    split at h
    · rename_i xs e
      obtain ⟨p, vs, rfl, _, q, t⟩ := rs.lst e r
      exact .inl ⟨vs, .inl (.inl q), by rw [t.isEmpty]; exact (Option.some.inj h).symm⟩
    · rename_i xs e
      obtain ⟨p, vs, rfl, _, q, t⟩ := rs.seq (xs := xs) (by unfold seqAt; rw [e]) r
      exact .inl ⟨vs, q, by rw [t.isEmpty]; exact (Option.some.inj h).symm⟩
    · rename_i xs e
      obtain ⟨p, vs, rfl, _, q, t⟩ := rs.dct e r
      exact .inr (.inr ⟨vs, q, by rw [t.isEmpty]; exact (Option.some.inj h).symm⟩)
    · cases h
  | raw v => simp only [dTru] at h; cases h
theorem tru_go {K : PySem.W.Frag} {σ : L2.St} {H : Hp} {Q : Bool → Hp → Prop} (h : tMT K W (mTru m) σ H Q) : tM K W m σ H fun v H1 => ∃ k, TruV K v H1 k ∧ Q k H1 := by
  obtain ⟨ι, ρ, S, re, rs, h⟩ := h
  refine ⟨ι, ρ, S, re, rs, PR.imp (fun v H1 hh => ?_) (PR.bind (rel := rD K) h)⟩
  obtain ⟨ι1, d, S1, x1, rs1, r1, h1⟩ := hh
  cases hk : dTru d S1 with
  | none => simp only [hk] at h1; exact h1.elim
  | some k =>
    simp only [hk] at h1
    exact ⟨k, dTru_ok rs1 r1 hk, h1.ret rs1 rfl⟩
theorem st_tru (he : SE X W e m) (hp : ∀ whole, isTrue e X.env whole = (do let v ← whole; standAt e.pos; holding [v] (truthy v)) := by intro _; rfl) : ST X W e (mTru m) :=
  PT.imp (pt_truth he hp) fun _ _ _ h => tru_go h
theorem test_go {K : PySem.W.Frag} {σ : L2.St} {H : Hp} {Q : Bool → Hp → Prop} (h : tMT K W (mTest m) σ H Q) : tM K W m σ H fun v H1 => ∃ k, v = .bl k ∧ Q k H1 := by
  obtain ⟨ι, ρ, S, re, rs, h⟩ := h
  refine ⟨ι, ρ, S, re, rs, PR.imp (fun v H1 hh => ?_) (PR.bind (rel := rD K) h)⟩
  obtain ⟨ι1, d, S1, x1, rs1, r1, h1⟩ := hh
  split at h1
  · rename_i k
    simp only [RD] at r1
    exact ⟨k, r1, h1.ret rs1 rfl⟩
  · exact h1.elim
theorem st_cmp {op : CmpOp} {f : DOp} (ho : OpR X (compareOp op) (rOp X.K f)) (ha : SE X W a ma) (hb : SE X W b mb) (hm : behindInMarks op b = false) : ST X W (.Compare a [op] [b] pos) (mTest (mBin f ma mb)) :=
  PT.imp (pt_cmpR ho ha hb hm) fun σ H Q h => bin_go (PE_test h)
  where PE_test {K : PySem.W.Frag} {σ : L2.St} {H : Hp} {Q : Bool → Hp → Prop} {m : EM} (h : tMT K W (mTest m) σ H Q) : tM K W m σ H fun v H1 => ∃ k, v = .bl k ∧ Q k H1 := test_go h
def tAnd' (a b : TM) : TM := fun ρ S => (a ρ S).bind fun k S1 => if k = true then b ρ S1 else .ok false S1
def tOr' (a b : TM) : TM := fun ρ S => (a ρ S).bind fun k S1 => if k = true then .ok true S1 else b ρ S1
def tNot' (a : TM) : TM := fun ρ S => (a ρ S).bind fun k S1 => .ok (!k) S1
theorem sw_and1 (ha : ST X W a ta) : SW X W (.BoolOp .And [a] pos) ta := pw_and1 ha
theorem sw_or1 (ha : ST X W a ta) : SW X W (.BoolOp .Or [a] pos) ta := pw_or1 ha
theorem PW.imp {e : Expr} {t t' : TT} (h : PW X e t) (q : ∀ σ H Q, t' σ H Q → t σ H Q) : PW X e t' := ⟨fun wh pins s σ H Q I w => h.run wh pins s σ H Q I (q _ _ _ w)⟩
theorem sw_and {rest : List Expr} (ha : ST X W a ta) (hb : SW X W (.BoolOp .And (b :: rest) pos) tb) : SW X W (.BoolOp .And (a :: b :: rest) pos) (tAnd' ta tb) := by
  refine PW.imp (pw_and ha hb) fun σ H Q h => ?_
  obtain ⟨ι, ρ, S, re, rs, h⟩ := h
  refine ⟨ι, ρ, S, re, rs, PR.imp (fun v H1 hh => ?_) (PR.bind (rel := rB) h)⟩
  obtain ⟨ι1, d, S1, x1, rs1, r1, h1⟩ := hh
  cases r1
  cases v with
  | true => exact iteT ⟨ι1, ρ, S1, re.mono x1, rs1, h1⟩
  | false => exact iteF (h1.ret rs1 rfl)
theorem sw_or {rest : List Expr} (ha : ST X W a ta) (hb : SW X W (.BoolOp .Or (b :: rest) pos) tb) : SW X W (.BoolOp .Or (a :: b :: rest) pos) (tOr' ta tb) := by
  refine PW.imp (pw_or ha hb) fun σ H Q h => ?_
  obtain ⟨ι, ρ, S, re, rs, h⟩ := h
  refine ⟨ι, ρ, S, re, rs, PR.imp (fun v H1 hh => ?_) (PR.bind (rel := rB) h)⟩
  obtain ⟨ι1, d, S1, x1, rs1, r1, h1⟩ := hh
  cases r1
  cases v with
  | true => exact iteT (h1.ret rs1 rfl)
  | false => exact iteF ⟨ι1, ρ, S1, re.mono x1, rs1, h1⟩
theorem st_not (ha : ST X W a ta) : ST X W (.UnaryOp .Not a pos) (tNot' ta) := by
  refine PT.imp (pt_not ha) fun σ H Q h => ?_
  obtain ⟨ι, ρ, S, re, rs, h⟩ := h
  refine ⟨ι, ρ, S, re, rs, PR.imp (fun v H1 hh => ?_) (PR.bind (rel := rB) h)⟩
  obtain ⟨ι1, d, S1, x1, rs1, r1, h1⟩ := hh
  cases r1
  exact h1.ret rs1 rfl
/-! values -/
def mAnd (ma mb : EM) : EM := fun ρ S => (ma ρ S).bind fun d S1 => match dTru d S1 with
  | none => .stk
  | some k => if k = true then mb ρ S1 else .ok d S1
def mOr (ma mb : EM) : EM := fun ρ S => (ma ρ S).bind fun d S1 => match dTru d S1 with
  | none => .stk
  | some k => if k = true then .ok d S1 else mb ρ S1
def mNot (ma : EM) : EM := fun ρ S => (ma ρ S).bind fun d S1 => match dTru d S1 with
  | none => .stk
  | some k => .ok (.bl (!k)) S1
theorem se_one {op : BoolOp} (h : SE X W a ma) : SE X W (.BoolOp op [a] pos) ma := pe_one h
theorem se_and {rest : List Expr} (ha : SE X W a ma) (hb : SE X W (.BoolOp .And (b :: rest) pos) mb) : SE X W (.BoolOp .And (a :: b :: rest) pos) (mAnd ma mb) := by
  refine PE.imp (pe_andT ha hb) fun σ H Q h => ?_
  obtain ⟨ι, ρ, S, re, rs, h⟩ := h
  refine ⟨ι, ρ, S, re, rs, PR.imp (fun v H1 hh => ?_) (PR.bind (rel := rD X.K) h)⟩
  obtain ⟨ι1, d, S1, x1, rs1, r1, h1⟩ := hh
  cases hk : dTru d S1 with
  | none => simp only [hk] at h1; exact h1.elim
  | some k =>
    simp only [hk] at h1
    refine ⟨k, dTru_ok rs1 r1 hk, ?_⟩
    cases k with
    | true => exact iteT ⟨ι1, ρ, S1, re.mono x1, rs1, h1⟩
    | false => exact iteF (h1.ret rs1 r1)
theorem se_or {rest : List Expr} (ha : SE X W a ma) (hb : SE X W (.BoolOp .Or (b :: rest) pos) mb) : SE X W (.BoolOp .Or (a :: b :: rest) pos) (mOr ma mb) := by
  refine PE.imp (pe_orT ha hb) fun σ H Q h => ?_
  obtain ⟨ι, ρ, S, re, rs, h⟩ := h
  refine ⟨ι, ρ, S, re, rs, PR.imp (fun v H1 hh => ?_) (PR.bind (rel := rD X.K) h)⟩
  obtain ⟨ι1, d, S1, x1, rs1, r1, h1⟩ := hh
  cases hk : dTru d S1 with
  | none => simp only [hk] at h1; exact h1.elim
  | some k =>
    simp only [hk] at h1
    refine ⟨k, dTru_ok rs1 r1 hk, ?_⟩
    cases k with
    | true => exact iteT (h1.ret rs1 r1)
    | false => exact iteF ⟨ι1, ρ, S1, re.mono x1, rs1, h1⟩
theorem se_not (ha : SE X W a ma) : SE X W (.UnaryOp .Not a pos) (mNot ma) := by
  refine PE.imp (pe_notT ha) fun σ H Q h => ?_
  obtain ⟨ι, ρ, S, re, rs, h⟩ := h
  refine ⟨ι, ρ, S, re, rs, PR.imp (fun v H1 hh => ?_) (PR.bind (rel := rD X.K) h)⟩
  obtain ⟨ι1, d, S1, x1, rs1, r1, h1⟩ := hh
  cases hk : dTru d S1 with
  | none => simp only [hk] at h1; exact h1.elim
  | some k =>
    simp only [hk] at h1
    exact ⟨k, dTru_ok rs1 r1 hk, h1.ret rs1 (by simp only [RD])⟩
def mIf (t : TM) (ma mb : EM) : EM := fun ρ S => (t ρ S).bind fun k S1 => if k = true then ma ρ S1 else mb ρ S1
theorem se_if (hc : ST X W c t) (ha : SE X W a ma) (hb : SE X W b mb) : SE X W (.IfExp c a b pos) (mIf t ma mb) := by
  refine PE.imp (pe_ifExp hc ha hb) fun σ H Q h => ?_
  obtain ⟨ι, ρ, S, re, rs, h⟩ := h
  refine ⟨ι, ρ, S, re, rs, PR.imp (fun v H1 hh => ?_) (PR.bind (rel := rB) h)⟩
  obtain ⟨ι1, d, S1, x1, rs1, r1, h1⟩ := hh
  cases r1
  cases v with
  | true => exact iteT ⟨ι1, ρ, S1, re.mono x1, rs1, h1⟩
  | false => exact iteF ⟨ι1, ρ, S1, re.mono x1, rs1, h1⟩
/-- a op b op' c -/
def mChain (f g : DOp) (ma mb mc : EM) : EM := fun ρ S => (ma ρ S).bind fun x S1 => (mb ρ S1).bind fun y S2 => (ofO (f x y S2)).bind fun z S3 => match z with
  | .bl true => (mc ρ S3).bind fun w S4 => ofO (g y w S4)
  | .bl false => .ok (.bl false) S3
  | _ => .stk
theorem PV.mono {K : PySem.W.Frag} {ι ι' : List Addr} {H H' : Hp} {Q : VK} (x : Ext K ι H ι' H') {o : Option (D × Sto)} (h : PV K ι H Q o) : PV K ι' H' Q o := by
  cases o with
  | none => exact h
  | some p => exact fun ι2 v H2 x2 => h ι2 v H2 (x.trans x2)
theorem PR.bindO {α' β' : Type} {K : PySem.W.Frag} {ι : List Addr} {H : Hp} {σ : L2.St} {rel' : Rel α' β'} {Q : β' → Hp → Prop} {o : Option (D × Sto)} {k : D → Sto → R α'} (h : PR K rel' W σ ι H Q ((ofO o).bind k)) :
    PV K ι H (fun v H1 => ∃ ι1 d S1, Ext K ι H ι1 H1 ∧ RS K ι1 H1 S1 ∧ RD K ι1 H1 d v ∧ PR K rel' W σ ι1 H1 Q (k d S1)) o := by
  cases o with
  | none => exact h
  | some p => exact fun ι2 v H2 x2 a b => ⟨ι2, p.1, p.2, x2, a, b, PR.mono x2 h⟩
theorem chain_go {K : PySem.W.Frag} {f g : DOp} {σ : L2.St} {H : Hp} {Q : VK} (h : tM K W (mChain f g ma mb mc) σ H Q) : tChain (rOp K f) (rOp K g) (tM K W ma) (tM K W mb) (tM K W mc) σ H Q := by
  obtain ⟨ι, ρ, S, re, rs, h⟩ := h
  refine ⟨ι, ρ, S, re, rs, PR.imp (fun v H1 hh => ?_) (PR.bind (rel := rD K) h)⟩
  obtain ⟨ι1, d, S1, x1, rs1, r1, h1⟩ := hh
  refine ⟨ι1, ρ, S1, re.mono x1, rs1, PR.imp (fun u H2 hh => ?_) (PR.bind (rel := rD K) h1)⟩
  obtain ⟨ι2, d2, S2, x2, rs2, r2, h2⟩ := hh
  have h2' := PR.bindO h2
  refine ⟨ι2, S2, d, d2, rs2, RD.mono x2 r1, r2, ?_⟩
  cases hf : f d d2 S2 with
  | none => rw [hf] at h2'; exact h2'
  | some p =>
    rw [hf] at h2'
    refine fun ι3 v3 H3 x3 rs3 r3 => ?_
    obtain ⟨ι4, d4, S4, x4, rs4, r4, h4⟩ := h2' ι3 v3 H3 x3 rs3 r3
    split at h4
    · simp only [RD] at r4
      refine ⟨true, r4, iteT ⟨ι4, ρ, S4, (re.mono x1).mono (x2.trans x4), rs4, PR.imp (fun u H2 hh => ?_) (PR.bind (rel := rD K) h4)⟩⟩
      obtain ⟨ι5, d5, S5, x5, rs5, r5, h5⟩ := hh
      exact ⟨ι5, S5, d2, d5, rs5, RD.mono (x4.trans x5) r2, r5, PV.of h5⟩
    · simp only [RD] at r4
      exact ⟨false, r4, iteF (h4.ret rs4 (by simp only [RD]))⟩
    · exact h4.elim
theorem se_chain {op op' : CmpOp} {f g : DOp} (ho : OpR X (compareOp op) (rOp X.K f)) (ho' : OpR X (compareOp op') (rOp X.K g)) (ha : SE X W a ma) (hb : SE X W b mb) (hc : SE X W c mc)
    (hm : lastMarks [op, op'] [b, c] = false := by with_unfolding_all rfl) : SE X W (.Compare a [op, op'] [b, c] pos) (mChain f g ma mb mc) :=
  PE.imp (pe_chain ho ho' ha hb hc hm) fun _ _ _ h => chain_go h
theorem st_chain {op op' : CmpOp} {f g : DOp} (ho : OpR X (compareOp op) (rOp X.K f)) (ho' : OpR X (compareOp op') (rOp X.K g)) (ha : SE X W a ma) (hb : SE X W b mb) (hc : SE X W c mc)
    (hm : lastMarks [op, op'] [b, c] = false := by with_unfolding_all rfl) : ST X W (.Compare a [op, op'] [b, c] pos) (mTest (mChain f g ma mb mc)) :=
  PT.imp (pt_chain ho ho' ha hb hc hm) fun _ _ _ h => chain_go (test_go h)
end

/-! ### statements -/
inductive SR where
  | stk | nx (ρ : Ev) (S : Sto) | rt (d : D) (S : Sto) | bk (ρ : Ev) (S : Sto) | ct (ρ : Ev) (S : Sto) | ex (e : Exn) (ρ : Ev) (S : Sto)
abbrev SM := Ev → Sto → SR
/-- an expression's result, then a statement's -/
def R.bindS {α : Type} (r : R α) (ρ : Ev) (f : α → Sto → SR) : SR := match r with
  | .stk => .stk
  | .ok a S => f a S
  | .ex e S => .ex e ρ S
@[simp] theorem bindS_ok {α : Type} (a : α) (S : Sto) (ρ : Ev) (f : α → Sto → SR) : (R.ok a S).bindS ρ f = f a S := rfl
@[simp] theorem bindS_stk {α : Type} (ρ : Ev) (f : α → Sto → SR) : (R.stk : R α).bindS ρ f = .stk := rfl
@[simp] theorem bindS_ex {α : Type} (e : Exn) (S : Sto) (ρ : Ev) (f : α → Sto → SR) : (R.ex e S : R α).bindS ρ f = .ex e ρ S := rfl
/-- what is wanted of a statement's result -/
def PQ (K : PySem.W.Frag) (W : WX) (ι : List Addr) (H : Hp) (D : Ends) : SR → Prop
  | .stk => False
  | .nx ρ' S' => ∀ ι' σ' H', Ext K ι H ι' H' → RS K ι' H' S' → RE K ι' H' ρ' σ' → D.nx σ' H'
  | .rt d S' => ∀ ι' v H', Ext K ι H ι' H' → RS K ι' H' S' → RD K ι' H' d v → D.rt v H'
  | .bk ρ' S' => ∀ ι' σ' H', Ext K ι H ι' H' → RS K ι' H' S' → RE K ι' H' ρ' σ' → D.bk σ' H'
  | .ct ρ' S' => ∀ ι' σ' H', Ext K ι H ι' H' → RS K ι' H' S' → RE K ι' H' ρ' σ' → D.ct σ' H'
  | .ex e ρ' S' => ∀ ι' σ' H' cls dd, Ext K ι H ι' H' → RS K ι' H' S' → RE K ι' H' ρ' σ' → RX K ι' H' e cls dd → W cls dd σ' H'
def tSM (K : PySem.W.Frag) (W : WX) (m : SM) : TS := fun D σ H => ∃ ι ρ S, RE K ι H ρ σ ∧ RS K ι H S ∧ PQ K W ι H D (m ρ S)
abbrev SS (X : Cx) (W : WX) (st : Stmt) (m : SM) : Prop := PS X st (tSM X.K W m)
abbrev SSs (X : Cx) (W : WX) (st : List Stmt) (m : SM) : Prop := PSs X st (tSM X.K W m)
section
variable {K : PySem.W.Frag} {ι ι' : List Addr} {H H' : Hp} {S : Sto} {ρ : Ev} {σ : L2.St} {W : WX} {D : Ends}
theorem PQ.mono (x : Ext K ι H ι' H') {r : SR} (h : PQ K W ι H D r) : PQ K W ι' H' D r := by
  cases r with
  | stk => exact h
  | nx ρ' S' => exact fun ι2 v H2 x2 => h ι2 v H2 (x.trans x2)
  | rt d S' => exact fun ι2 v H2 x2 => h ι2 v H2 (x.trans x2)
  | bk ρ' S' => exact fun ι2 v H2 x2 => h ι2 v H2 (x.trans x2)
  | ct ρ' S' => exact fun ι2 v H2 x2 => h ι2 v H2 (x.trans x2)
  | ex e ρ' S' => exact fun ι2 v H2 cls dd x2 => h ι2 v H2 cls dd (x.trans x2)
theorem PR.bindS {α β : Type} {rel : Rel α β} {r : R α} {k : α → Sto → SR} (re : RE K ι H ρ σ) (h : PQ K W ι H D (r.bindS ρ k)) :
    PR K rel W σ ι H (fun v H1 => ∃ ι1 d S1, Ext K ι H ι1 H1 ∧ RS K ι1 H1 S1 ∧ rel ι1 H1 d v ∧ PQ K W ι1 H1 D (k d S1)) r := by
  cases r with
  | stk => exact h
  | ok d S' => exact fun ι2 v H2 x2 a b => ⟨ι2, d, S', x2, a, b, PQ.mono x2 h⟩
  | ex e S' => exact fun ι2 H2 cls dd x2 a b => h ι2 σ H2 cls dd x2 a (re.mono x2) b
theorem PQ.next {ρ' : Ev} {σ' : L2.St} (h : PQ K W ι H D (.nx ρ' S)) (rs : RS K ι H S) (re : RE K ι H ρ' σ') : D.nx σ' H := h ι σ' H .refl rs re
end
def sNext : SM := fun ρ S => .nx ρ S
def SR.seq (r : SR) (u : SM) : SR := match r with
  | .nx ρ S => u ρ S
  | r => r
def sSeq (t u : SM) : SM := fun ρ S => (t ρ S).seq u
def sRet (m : EM) : SM := fun ρ S => (m ρ S).bindS ρ fun d S1 => .rt d S1
def sRetN : SM := fun _ S => .rt .non S
def sDrop (m : EM) : SM := fun ρ S => (m ρ S).bindS ρ fun _ S1 => .nx ρ S1
def sIf (t : TM) (a b : SM) : SM := fun ρ S => (t ρ S).bindS ρ fun k S1 => if k = true then a ρ S1 else b ρ S1
def sSet (i : Nat) (m : EM) : SM := fun ρ S => (m ρ S).bindS ρ fun d S1 => .nx (ρ.set i (some d)) S1
def sBreak : SM := fun ρ S => .bk ρ S
def sCont : SM := fun ρ S => .ct ρ S
theorem RE.put {K : PySem.W.Frag} {ι : List Addr} {H : Hp} {ρ : Ev} {σ : L2.St} {i : Nat} {d : D} {v : V} (r : RE K ι H ρ σ) (h : RD K ι H d v) : RE K ι H (ρ.set i (some d)) (σ.set i (some v)) := by
  refine ⟨by simp [r.len], fun j d' e => ?_⟩
  by_cases hj : j = i
  · subst hj
    have hl : j < ρ.length := by
      have := (List.getElem?_eq_some_iff.mp e).1
      simpa using this
    rw [List.getElem?_set_self hl] at e
    cases e
    exact ⟨v, by rw [List.getElem?_set_self (by rw [← r.len]; exact hl)], h⟩
  · rw [List.getElem?_set_ne (Ne.symm hj)] at e
    obtain ⟨u, a, b⟩ := r.at_ j d' e
    exact ⟨u, by rw [List.getElem?_set_ne (Ne.symm hj)]; exact a, b⟩
section
variable {X : Cx} {W : WX} {st : Stmt} {rest : List Stmt} {e : Expr} {pos : Pos} {m : EM} {t u : SM} {c : TM}
theorem sss_nil : SSs X W [] sNext := PSs.imp pss_nil fun D σ H h => by
  obtain ⟨ι, ρ, S, re, rs, h⟩ := h
  exact h.next rs re
theorem seq_go {K : PySem.W.Frag} {D : Ends} {σ : L2.St} {H : Hp} (h : tSM K W (sSeq t u) D σ H) : tSM K W t { D with nx := tSM K W u D } σ H := by
  obtain ⟨ι, ρ, S, re, rs, h⟩ := h
  refine ⟨ι, ρ, S, re, rs, ?_⟩
  unfold sSeq at h
  cases ht : t ρ S with
  | stk => rw [ht] at h; exact h
  | nx ρ' S' =>
    rw [ht] at h
    exact fun ι2 σ2 H2 x2 rs2 re2 => ⟨ι2, ρ', S', re2, rs2, PQ.mono x2 h⟩
  | rt d S' => rw [ht] at h; exact h
  | bk ρ' S' => rw [ht] at h; exact h
  | ct ρ' S' => rw [ht] at h; exact h
  | ex e ρ' S' => rw [ht] at h; exact h
theorem sss_cons (h1 : SS X W st t) (h2 : SSs X W rest u) : SSs X W (st :: rest) (sSeq t u) := PSs.imp (pss_cons h1 h2) fun D σ H h => seq_go h
theorem sss_one (h1 : SS X W st t) : SSs X W [st] t := pss_one h1
theorem ss_pass : SS X W (.Pass pos) sNext := PS.imp ps_pass fun D σ H h => by
  obtain ⟨ι, ρ, S, re, rs, h⟩ := h
  exact h.next rs re
theorem ss_break : SS X W (.Break pos) sBreak := PS.imp ps_break fun D σ H h => by
  obtain ⟨ι, ρ, S, re, rs, h⟩ := h
  exact h ι σ H .refl rs re
theorem ss_continue : SS X W (.Continue pos) sCont := PS.imp ps_continue fun D σ H h => by
  obtain ⟨ι, ρ, S, re, rs, h⟩ := h
  exact h ι σ H .refl rs re
theorem ss_expr (he : SE X W e m) (hs : swapsWith e none pos.line X.env = pure false := by rfl) : SS X W (.Expr e pos) (sDrop m) := by
  refine PS.imp (ps_expr he hs) fun D σ H h => ?_
  obtain ⟨ι, ρ, S, re, rs, h⟩ := h
  refine ⟨ι, ρ, S, re, rs, PR.imp (fun v H1 hh => ?_) (PR.bindS (rel := rD X.K) re h)⟩
  obtain ⟨ι1, d, S1, x1, rs1, r1, h1⟩ := hh
  exact h1.next rs1 (re.mono x1)
theorem ss_ret (he : SE X W e m) : SS X W (.Return (some e) pos) (sRet m) := by
  refine PS.imp (ps_ret he) fun D σ H h => ?_
  obtain ⟨ι, ρ, S, re, rs, h⟩ := h
  refine ⟨ι, ρ, S, re, rs, PR.imp (fun v H1 hh => ?_) (PR.bindS (rel := rD X.K) re h)⟩
  obtain ⟨ι1, d, S1, x1, rs1, r1, h1⟩ := hh
  exact h1 ι1 v H1 .refl rs1 r1
theorem ss_retN : SS X W (.Return none pos) sRetN := PS.imp ps_retN fun D σ H h => by
  obtain ⟨ι, ρ, S, re, rs, h⟩ := h
  exact h ι .non H .refl rs (by simp only [RD])
theorem ss_if {e : Expr} {a b : List Stmt} (hc : ST X W e c) (ha : SSs X W a t) (hb : SSs X W b u) : SS X W (.If e a b pos) (sIf c t u) := by
  refine PS.imp (ps_if hc ha hb) fun D σ H h => ?_
  obtain ⟨ι, ρ, S, re, rs, h⟩ := h
  refine ⟨ι, ρ, S, re, rs, PR.imp (fun v H1 hh => ?_) (PR.bindS (rel := rB) re h)⟩
  obtain ⟨ι1, d, S1, x1, rs1, r1, h1⟩ := hh
  cases r1
  cases v with
  | true => exact iteT ⟨ι1, ρ, S1, re.mono x1, rs1, h1⟩
  | false => exact iteF ⟨ι1, ρ, S1, re.mono x1, rs1, h1⟩
theorem ss_set (i : Nat) {x : Str} {pos' : Pos} (hN : X.N.Nodup) (he : SE X W e m) (hi : X.N[i]? = some x := by rfl) (hx : Loc X.env.scope x := by first | exact Or.inl rfl | exact Or.inr rfl) (hs : swapsWith e (some (.Name x pos')) pos.line X.env = pure false := by rfl)
    (hf : X.fn x = true ∨ X.env.scope.names.lookup x = some .local := by first | exact .inl rfl | exact .inr rfl | assumption) : SS X W (.Assign [.Name x pos'] e pos) (sSet i m) := by
  refine PS.imp (ps_set hN hi hx he hs hf) fun D σ H h => ?_
  obtain ⟨ι, ρ, S, re, rs, h⟩ := h
  refine ⟨ι, ρ, S, re, rs, PR.imp (fun v H1 hh => ?_) (PR.bindS (rel := rD X.K) re h)⟩
  obtain ⟨ι1, d, S1, x1, rs1, r1, h1⟩ := hh
  exact h1.next rs1 ((re.mono x1).put r1)
end

/-! ### targets -/
inductive Tg where
  | nm (i : Nat) | tp (ts : List Tg)
mutual
def Tg.put : Tg → D → Ev → Option Ev
  | .nm i, d, ρ => some (ρ.set i (some d))
  | .tp ts, .tup xs, ρ => Tg.puts ts xs ρ
  | .tp _, _, _ => none
def Tg.puts : List Tg → List D → Ev → Option Ev
  | [], [], ρ => some ρ
  | t :: ts, d :: ds, ρ => (t.put d ρ).bind fun ρ' => Tg.puts ts ds ρ'
  | _, _, _ => none
end
mutual
def Tg.slots : Tg → List Nat
  | .nm i => [i]
  | .tp ts => Tg.slotss ts
def Tg.slotss : List Tg → List Nat
  | [] => []
  | t :: ts => t.slots ++ Tg.slotss ts
end
mutual
def Tg.g (K : PySem.W.Frag) : Tg → TG
  | .nm i => gName i
  | .tp ts => gTup K ts.length (Tg.gs K ts)
def Tg.gs (K : PySem.W.Frag) : List Tg → TGs
  | [] => gNil
  | t :: ts => gCons (t.g K) (Tg.gs K ts)
end
section
variable {K : PySem.W.Frag} {ι : List Addr} {H : Hp}
theorem Tg.puts_len : ∀ {ts : List Tg} {xs : List D} {ρ ρ' : Ev}, Tg.puts ts xs ρ = some ρ' → xs.length = ts.length
  | [], [], _, _, _ => rfl
  | t :: ts, d :: ds, ρ, ρ', h => by
    simp only [Tg.puts] at h
    cases e : t.put d ρ with
    | none => rw [e] at h; cases h
    | some ρ1 => rw [e] at h; rw [List.length_cons, List.length_cons, Tg.puts_len (ρ := ρ1) (ρ' := ρ') h]
  | [], _ :: _, _, _, h => by simp only [Tg.puts] at h; cases h
  | _ :: _, [], _, _, h => by simp only [Tg.puts] at h; cases h
mutual
theorem Tg.g_of : ∀ (t : Tg) {d : D} {v : V} {ρ ρ' : Ev} {σ : L2.St} {Q : L2.St → Hp → Prop}, RE K ι H ρ σ → RD K ι H d v → t.put d ρ = some ρ' →
    (∀ σ', RE K ι H ρ' σ' → (∀ i, i ∉ t.slots → σ'[i]? = σ[i]?) → Q σ' H) → t.g K v σ H Q
  | .nm i, d, v, ρ, ρ', σ, Q, re, r, e, q => by
    simp only [Tg.put, Option.some.injEq] at e
    subst e
    exact q _ (re.put r) fun j hj => List.getElem?_set_ne (fun z => hj (by simp only [Tg.slots, List.mem_singleton]; exact z.symm))
  | .tp ts, d, v, ρ, ρ', σ, Q, re, r, e, q => by
    cases d with
    | tup xs =>
      simp only [Tg.put] at e
      simp only [RD] at r
      obtain ⟨p, vs, rfl, sq, rr⟩ := r
      simp only [Tg.g]
      refine ⟨p, vs, rfl, sq, by rw [rr.length]; exact Tg.puts_len e, Tg.gs_of ts re rr e fun σ' h1 h2 => q σ' h1 fun i hi => h2 i (by simpa only [Tg.slots] using hi)⟩
    | _ => simp only [Tg.put] at e; cases e
theorem Tg.gs_of : ∀ (ts : List Tg) {ds : List D} {vs : List V} {ρ ρ' : Ev} {σ : L2.St} {Q : L2.St → Hp → Prop}, RE K ι H ρ σ → RDs K ι H ds vs → Tg.puts ts ds ρ = some ρ' →
    (∀ σ', RE K ι H ρ' σ' → (∀ i, i ∉ Tg.slotss ts → σ'[i]? = σ[i]?) → Q σ' H) → Tg.gs K ts vs σ H Q
  | [], ds, vs, ρ, ρ', σ, Q, re, r, e, q => by
    cases ds with
    | nil =>
      simp only [Tg.puts, Option.some.injEq] at e
      simp only [RDs] at r
      subst e; subst r
      simp only [Tg.gs]
      exact ⟨rfl, q σ re fun _ _ => rfl⟩
    | cons d ds => simp only [Tg.puts] at e; cases e
  | t :: ts, ds, vs, ρ, ρ', σ, Q, re, r, e, q => by
    cases ds with
    | nil => simp only [Tg.puts] at e; cases e
    | cons d ds =>
      simp only [Tg.puts] at e
      simp only [RDs] at r
      obtain ⟨v, vr, rfl, a, b⟩ := r
      cases e1 : t.put d ρ with
      | none => rw [e1] at e; cases e
      | some ρ1 =>
        rw [e1] at e
        simp only [Tg.gs]
        refine ⟨v, vr, rfl, Tg.g_of t re a e1 fun σ1 re1 k1 => Tg.gs_of ts re1 b e fun σ2 re2 k2 => q σ2 re2 fun i hi => ?_⟩
        simp only [Tg.slotss, List.mem_append, not_or] at hi
        rw [k2 i hi.2, k1 i hi.1]
end
end
def sAsg (t : Tg) (m : EM) : SM := fun ρ S => (m ρ S).bindS ρ fun d S1 => match t.put d ρ with
  | some ρ' => .nx ρ' S1
  | none => .stk
section
variable {X : Cx} {W : WX} {e tg : Expr} {pos : Pos} {m : EM}
theorem sg_name (i : Nat) {x : Str} (hN : X.N.Nodup) (hi : X.N[i]? = some x := by rfl) (hx : Loc X.env.scope x := by first | exact Or.inl rfl | exact Or.inr rfl)
    (hf : X.fn x = true ∨ X.env.scope.names.lookup x = some .local := by first | exact .inl rfl | exact .inr rfl | assumption) : PG X (.Name x pos) (Tg.g X.K (.nm i)) := by
  simp only [Tg.g]; exact pg_name hN hi hx hf
theorem sgs_nil : PGs X [] (Tg.gs X.K []) := by simp only [Tg.gs]; exact pgs_nil
theorem sgs_cons {es : List Expr} {t : Tg} {ts : List Tg} (h1 : PG X e (Tg.g X.K t)) (h2 : PGs X es (Tg.gs X.K ts))
    (hs : (assignEach (e :: es) X.env).map (·.2) = assign e X.env :: (assignEach es X.env).map (·.2) := by rfl) : PGs X (e :: es) (Tg.gs X.K (t :: ts)) := by
  simp only [Tg.gs]; exact pgs_cons h1 h2 hs
theorem sg_tup {es : List Expr} {k : Nat} {ts : List Tg} (hc : X.calm = true) (h : PGs X es (Tg.gs X.K ts))
    (hn : (assignEach es X.env).length = ts.length := by rfl) (hst : (assignEach es X.env).findIdx? (·.1) = none := by rfl) : PG X (.Tuple es k pos) (Tg.g X.K (.tp ts)) := by
  simp only [Tg.g]; exact pg_tup hc h hn hst
theorem ss_asg {t : Tg} (he : SE X W e m) (hg : PG X tg (t.g X.K)) (hs : swapsWithSole [tg] e pos.line X.env = pure false := by rfl) (hw : swappedStores [tg] e X.env = pure none := by rfl)
    (h1 : (assignEach [tg] X.env).map (·.2) = [assign tg X.env] := by rfl) : SS X W (.Assign [tg] e pos) (sAsg t m) := by
  refine PS.imp (ps_asg he hg hs hw h1) fun D σ H h => ?_
  obtain ⟨ι, ρ, S, re, rs, h⟩ := h
  refine ⟨ι, ρ, S, re, rs, PR.imp (fun v H1 hh => ?_) (PR.bindS (rel := rD X.K) re h)⟩
  obtain ⟨ι1, d, S1, x1, rs1, r1, h1⟩ := hh
  cases e1 : t.put d ρ with
  | none => simp only [e1] at h1; exact h1.elim
  | some ρ' =>
    simp only [e1] at h1
    exact Tg.g_of t (re.mono x1) r1 e1 fun σ' re' _ => h1.next rs1 re'
/-- a, b = x, y, both sides written -/
def sPar (i j : Nat) (ms : AM) : SM := fun ρ S => (ms ρ S).bindS ρ fun ds S1 => match ds with
  | [d, d'] => .nx ((ρ.set i (some d)).set j (some d')) S1
  | _ => .stk
theorem ss_par (i j : Nat) {x y : Str} {a b : Expr} {ms : AM} {px py pt : Pos} {kt k2 : Nat} {pt2 : Pos} (hc : X.calm = true) (hN : X.N.Nodup) (ha : SA X W [a, b] ms) (hi : X.N[i]? = some x := by rfl) (hj : X.N[j]? = some y := by rfl) (hij : i ≠ j := by decide)
    (hx : X.env.scope.names.lookup x = some .local := by rfl) (hy : X.env.scope.names.lookup y = some .local := by rfl)
    (hw : swappedStores [.Tuple [.Name x px, .Name y py] kt pt] (.Tuple [a, b] k2 pt2) X.env = pure (some [x, y]) := by rfl)
    (hs : swapsWithSole [.Tuple [.Name x px, .Name y py] kt pt] (.Tuple [a, b] k2 pt2) pos.line X.env = pure false := by rfl) :
    SS X W (.Assign [.Tuple [.Name x px, .Name y py] kt pt] (.Tuple [a, b] k2 pt2) pos) (sPar i j ms) := by
  refine PS.imp (ps_par hc hN hi hj hij hx hy ha hw hs) fun D σ H h => ?_
  obtain ⟨ι, ρ, S, re, rs, h⟩ := h
  refine ⟨ι, ρ, S, re, rs, PR.imp (fun v H1 hh => ?_) (PR.bindS (rel := rDs X.K) re h)⟩
  obtain ⟨ι1, d, S1, x1, rs1, r1, h1⟩ := hh
  split at h1
  · simp only [RDs] at r1
    obtain ⟨v1, _, rfl, ra, v2, _, rfl, rb, rfl⟩ := r1
    exact ⟨v1, v2, rfl, h1.next rs1 (((re.mono x1).put ra).put rb)⟩
  · exact h1.elim
end
end DL

/-! the D-layer: what is walked; while, for, comprehensions -/
namespace DL
open PySem L2

inductive Src where
  | lst (n : Nat) | tup (xs : List D) | str (x : Str) | rng (lo : Int) (n : Nat) | enL (n : Nat) | zpL (n m : Nat) | zpT (xs ys : List D)
def zpAt (xs ys : List D) (i : Nat) : Option D := match xs[i]?, ys[i]? with
  | some x, some y => some (.tup [x, y])
  | _, _ => none
/-- the i-th turn: none: not to be told; some none: the end -/
def Src.at_ (s : Src) (i : Nat) (S : Sto) : Option (Option D) := match s with
  | .lst n => (seqAt S n).map fun xs => xs[i]?
  | .tup xs => some xs[i]?
  | .str x => some (x.cps[i]?.map fun c => .str ⟨#[c]⟩)
  | .rng lo n => some (if i < n then some (.int (lo + i)) else none)
  | .enL n => (seqAt S n).map fun xs => xs[i]?.map fun x => .tup [.int (i : Nat), x]
  | .zpL n m => (seqAt S n).bind fun xs => (seqAt S m).map fun ys => zpAt xs ys i
  | .zpT xs ys => some (zpAt xs ys i)

section
variable (K : PySem.W.Frag)
def ItOk (ι : List Addr) (H : Hp) (J : It) (s : Src) : Prop := ∀ ι' H' S i, Ext K ι H ι' H' → RS K ι' H' S → match s.at_ i S with
  | none => True
  | some none => J.stop i H'
  | some (some d) => J.go i H' ∧ ∀ v H'', J.yld i H' v H'' → ∃ ι'', Ext K ι' H' ι'' H'' ∧ RS K ι'' H'' S ∧ RD K ι'' H'' d v
abbrev rI : Rel Src It := fun ι H s J => ItOk K ι H J s
end
abbrev IM := Ev → Sto → R Src
abbrev SI (X : Cx) (W : WX) (tg e : Expr) (m : IM) : Prop := PI X tg e (tG X.K (rI X.K) W m)
section
variable {K : PySem.W.Frag} {ι : List Addr} {H : Hp}
theorem ItOk.rng (lo : Int) (n : Nat) : ItOk K ι H (Itr lo n) (.rng lo n) := fun ι' H' S i x rs => by
  unfold Src.at_
  dsimp only
  by_cases hi : i < n
  · rw [if_pos hi]
    exact ⟨hi, fun v H'' hy => by obtain ⟨rfl, rfl⟩ := hy; exact ⟨ι', .refl, rs, by simp only [RD]⟩⟩
  · rw [if_neg hi]; exact Nat.le_of_not_lt hi
theorem ItOk.str (z : Str) : ItOk K ι H (Its z) (.str z) := fun ι' H' S i x rs => by
  unfold Src.at_
  dsimp only
  cases e : z.cps[i]? with
  | none => exact Array.getElem?_eq_none_iff.mp e
  | some c =>
    refine ⟨(Array.getElem?_eq_some_iff.mp e).1, fun v H'' hy => ?_⟩
    obtain ⟨rfl, c', e', rfl⟩ := hy
    rw [e] at e'; cases e'
    exact ⟨ι', .refl, rs, by simp only [RD]⟩
theorem ItOk.tup {p : Addr} {vs : List V} {xs : List D} (q : SqT K H p vs) (r : RDs K ι H xs vs) : ItOk K ι H (Itt K p) (.tup xs) := fun ι' H' S i x rs => by
  unfold Src.at_
  dsimp only
  have q' := x.tup _ _ q
  have r' := RDs.mono x r
  cases e : xs[i]? with
  | none => exact ⟨vs, q', by rw [r.length]; exact List.getElem?_eq_none_iff.mp e⟩
  | some d =>
    obtain ⟨v, ev, rv⟩ := r'.get e
    refine ⟨⟨vs, v, q', ev⟩, fun u H'' hy => ?_⟩
    obtain ⟨rfl, hu⟩ := hy
    have := hu vs q'
    rw [ev] at this; cases this
    exact ⟨ι', .refl, rs, rv⟩
theorem ItOk.lst {p : Addr} {n : Nat} (hp : ι[n]? = some p) : ItOk K ι H (Itl K p) (.lst n) := fun ι' H' S i x rs => by
  unfold Src.at_
  dsimp only
  cases e : seqAt S n with
  | none => trivial
  | some xs =>
    obtain ⟨p', vs, ep, _, q, r⟩ := rs.seq (v := .ref p) e (by simp only [RD]; exact ⟨p, rfl, x.ix hp⟩)
    cases ep
    simp only [Option.map_some]
    cases e2 : xs[i]? with
    | none => exact ⟨vs, q, by rw [r.length]; exact List.getElem?_eq_none_iff.mp e2⟩
    | some d =>
      obtain ⟨v, ev, rv⟩ := r.get e2
      refine ⟨⟨vs, v, q, ev⟩, fun u H'' hy => ?_⟩
      obtain ⟨rfl, hu⟩ := hy
      have := hu vs q
      rw [ev] at this; cases this
      exact ⟨ι', .refl, rs, rv⟩
theorem pair_new {ι' : List Addr} {H' : Hp} {S : Sto} {T : Addr} {a b : V} {x y : D} (rs : RS K ι' H' S) (nT : H' T = none) (ra : RD K ι' H' x a) (rb : RD K ι' H' y b) :
    ∃ ι'', Ext K ι' H' ι'' (upd H' T (.tup [a, b])) ∧ RS K ι'' (upd H' T (.tup [a, b])) S ∧ RD K ι'' (upd H' T (.tup [a, b])) (.tup [x, y]) (.ref T) := by
  refine ⟨ι', .new nT, rs.new nT, ?_⟩
  simp only [RD]
  exact ⟨T, [a, b], rfl, .inl (.inl upd_same), .cons (RD.mono (.new nT) ra) (.cons (RD.mono (.new nT) rb) .nil)⟩
theorem ItOk.enL {p : Addr} {n : Nat} (hp : ι[n]? = some p) : ItOk K ι H (Ite K p) (.enL n) := fun ι' H' S i x rs => by
  unfold Src.at_
  dsimp only
  cases e : seqAt S n with
  | none => trivial
  | some xs =>
    obtain ⟨p', vs, ep, _, q, r⟩ := rs.seq (v := .ref p) e (by simp only [RD]; exact ⟨p, rfl, x.ix hp⟩)
    cases ep
    simp only [Option.map_some]
    cases e2 : xs[i]? with
    | none => exact ⟨vs, q, by rw [r.length]; exact List.getElem?_eq_none_iff.mp e2⟩
    | some d =>
      obtain ⟨v, ev, rv⟩ := r.get e2
      refine ⟨⟨vs, v, q, ev⟩, fun u H'' hy => ?_⟩
      obtain ⟨T, w, rfl, nT, rfl, hu⟩ := hy
      have := hu vs q
      rw [ev] at this; cases this
      exact pair_new rs nT (by simp only [RD]) rv
theorem zpAt_none {xs ys : List D} {i : Nat} (h : zpAt xs ys i = none) : xs.length ≤ i ∨ ys.length ≤ i := by
  unfold zpAt at h
  split at h
  · cases h
  · rename_i hn
    cases e : xs[i]? with
    | none => exact .inl (List.getElem?_eq_none_iff.mp e)
    | some x =>
      cases e2 : ys[i]? with
      | none => exact .inr (List.getElem?_eq_none_iff.mp e2)
      | some y => exact (hn x y e e2).elim
theorem zpAt_some {xs ys : List D} {i : Nat} {d : D} (h : zpAt xs ys i = some d) : ∃ x y, xs[i]? = some x ∧ ys[i]? = some y ∧ d = .tup [x, y] := by
  unfold zpAt at h
  split at h
  · rename_i x y e e2
    exact ⟨x, y, e, e2, (Option.some.inj h).symm⟩
  · cases h
theorem ItOk.zpL {p q : Addr} {n m : Nat} (hp : ι[n]? = some p) (hq : ι[m]? = some q) : ItOk K ι H (Itz K p q) (.zpL n m) := fun ι' H' S i x rs => by
  unfold Src.at_
  dsimp only
  cases e : seqAt S n with
  | none => trivial
  | some xs =>
    cases e' : seqAt S m with
    | none => trivial
    | some ys =>
      obtain ⟨p', vs, ep, _, s1, r1⟩ := rs.seq (v := .ref p) e (by simp only [RD]; exact ⟨p, rfl, x.ix hp⟩)
      cases ep
      obtain ⟨q', us, eq, _, s2, r2⟩ := rs.seq (v := .ref q) e' (by simp only [RD]; exact ⟨q, rfl, x.ix hq⟩)
      cases eq
      simp only [Option.map_some, Option.bind_some]
      cases e2 : zpAt xs ys i with
      | none => exact ⟨vs, us, s1, s2, by rw [r1.length, r2.length]; exact zpAt_none e2⟩
      | some d =>
        obtain ⟨a, b, ea, eb, rfl⟩ := zpAt_some e2
        obtain ⟨v, ev, rv⟩ := r1.get ea
        obtain ⟨u, eu, ru⟩ := r2.get eb
        refine ⟨⟨vs, us, v, u, s1, s2, ev, eu⟩, fun u' H'' hy => ?_⟩
        obtain ⟨T, a', b', rfl, nT, rfl, h1, h2⟩ := hy
        have t1 := h1 vs s1
        have t2 := h2 us s2
        rw [ev] at t1; cases t1
        rw [eu] at t2; cases t2
        exact pair_new rs nT rv ru
theorem ItOk.zpT {p q : Addr} {vs us : List V} {xs ys : List D} (s1 : SqT K H p vs) (s2 : SqT K H q us) (r1 : RDs K ι H xs vs) (r2 : RDs K ι H ys us) : ItOk K ι H (RZ.ItzT K p q) (.zpT xs ys) := fun ι' H' S i x rs => by
  unfold Src.at_
  dsimp only
  cases e2 : zpAt xs ys i with
  | none => exact ⟨vs, us, x.tup _ _ s1, x.tup _ _ s2, by rw [r1.length, r2.length]; exact zpAt_none e2⟩
  | some d =>
    obtain ⟨a, b, ea, eb, rfl⟩ := zpAt_some e2
    obtain ⟨v, ev, rv⟩ := (RDs.mono x r1).get ea
    obtain ⟨u, eu, ru⟩ := (RDs.mono x r2).get eb
    refine ⟨⟨vs, us, v, u, x.tup _ _ s1, x.tup _ _ s2, ev, eu⟩, fun u' H'' hy => ?_⟩
    obtain ⟨T, a', b', rfl, nT, rfl, h1, h2⟩ := hy
    have t1 := h1 vs (x.tup _ _ s1)
    have t2 := h2 us (x.tup _ _ s2)
    rw [ev] at t1; cases t1
    rw [eu] at t2; cases t2
    exact pair_new rs nT rv ru
end
def iAny (m : EM) : IM := fun ρ S => (m ρ S).bind fun d S1 => match d with
  | .ref n => if (seqAt S1 n).isSome = true then .ok (.lst n) S1 else .stk
  | .tup xs => .ok (.tup xs) S1
  | .str x => .ok (.str x) S1
  | _ => .stk
def inR (i : Int) : Bool := decide (-(2 ^ 62) ≤ i) && decide (i < 2 ^ 62)
def iRg1 (ms : AM) : IM := fun ρ S => (ms ρ S).bind fun ds S1 => match ds with
  | [.int j] => if inR j = true then .ok (.rng 0 j.toNat) S1 else .stk
  | _ => .stk
def iRg2 (ms : AM) : IM := fun ρ S => (ms ρ S).bind fun ds S1 => match ds with
  | [.int i, .int j] => if (inR i && inR j) = true then .ok (.rng i (j - i).toNat) S1 else .stk
  | _ => .stk
def iEn (ms : AM) : IM := fun ρ S => (ms ρ S).bind fun ds S1 => match ds with
  | [.ref n] => if (seqAt S1 n).isSome = true then .ok (.enL n) S1 else .stk
  | _ => .stk
def iZp (ms : AM) : IM := fun ρ S => (ms ρ S).bind fun ds S1 => match ds with
  | [.ref n, .ref m] => if ((seqAt S1 n).isSome && (seqAt S1 m).isSome) = true then .ok (.zpL n m) S1 else .stk
  | [.tup xs, .tup ys] => .ok (.zpT xs ys) S1
  | _ => .stk
section
variable {X : Cx} {W : WX} {tg e e2 : Expr} {m : EM} {ms : AM} {p pos : Pos}
theorem PI.imp {t t' : TI} (h : PI X tg e t) (q : ∀ σ H Q, t' σ H Q → t σ H Q) : PI X tg e t' := ⟨fun pins s σ H Q I w => h.run pins s σ H Q I (q _ _ _ w)⟩
theorem PI.or {t t' : TI} (h : PI X tg e t) (h' : PI X tg e t') : PI X tg e (fun σ H R => t σ H R ∨ t' σ H R) :=
  ⟨fun pins s σ H Q I w => w.elim (h.run pins s σ H Q I) (h'.run pins s σ H Q I)⟩
theorem si_any (he : SE X W e m) : SI X W tg e (iAny m) := by
  refine PI.imp (PI.or (pi_list he) (PI.or (pi_tup he) (pi_str he))) fun σ H Q h => ?_
  obtain ⟨ι, ρ, S, re, rs, h⟩ := h
  unfold iAny at h
  cases em : m ρ S with
  | stk => rw [em] at h; exact h.elim
  | ex e S1 => rw [em] at h; exact .inl ⟨ι, ρ, S, re, rs, by rw [em]; exact h⟩
  | ok d S1 =>
    rw [em] at h
    cases d with
    | ref n =>
      refine .inl ⟨ι, ρ, S, re, rs, ?_⟩
      rw [em]
      simp only [bind_ok] at h
      split at h
      · rename_i hs
        refine fun ι1 v H1 x1 rs1 r1 => ?_
        obtain ⟨xs, hx⟩ := Option.isSome_iff_exists.mp hs
        obtain ⟨p, vs, rfl, hp, q, r⟩ := rs1.seq hx r1
        exact ⟨p, rfl, ⟨vs, q⟩, h ι1 _ H1 x1 rs1 (.lst hp)⟩
      · exact h.elim
    | tup xs =>
      refine .inr (.inl ⟨ι, ρ, S, re, rs, ?_⟩)
      rw [em]
      simp only [bind_ok] at h
      refine fun ι1 v H1 x1 rs1 r1 => ?_
      simp only [rD, RD] at r1
      obtain ⟨p, vs, rfl, q, r⟩ := r1
      exact ⟨p, rfl, ⟨vs, q⟩, h ι1 _ H1 x1 rs1 (.tup q r)⟩
    | str z =>
      refine .inr (.inr ⟨ι, ρ, S, re, rs, ?_⟩)
      rw [em]
      simp only [bind_ok] at h
      refine fun ι1 v H1 x1 rs1 r1 => ?_
      simp only [rD, RD] at r1
      exact ⟨z, r1, h ι1 _ H1 x1 rs1 (.str z)⟩
    | _ => exact h.elim
theorem inR_of {i : Int} (h : inR i = true) : -(2 ^ 62) ≤ i ∧ i < 2 ^ 62 := by
  unfold inR at h
  rw [Bool.and_eq_true] at h
  exact ⟨of_decide_eq_true h.1, of_decide_eq_true h.2⟩
theorem si_range1 (hg : Gl X "range") (hm : X.mg "range" = none) (ha : SA X W [e] ms) (hs : starEach [e] X.env = [(false, eval e X.env)] := by rfl) : SI X W tg (.Call (.Name "range" p) [e] [] pos) (iRg1 ms) := by
  refine PI.imp (pi_range1 hg hm ha hs) fun σ H Q h => ?_
  obtain ⟨ι, ρ, S, re, rs, h⟩ := h
  refine ⟨ι, ρ, S, re, rs, PR.imp (fun v H1 hh => ?_) (PR.bind (rel := rDs X.K) h)⟩
  obtain ⟨ι1, d, S1, x1, rs1, r1, h1⟩ := hh
  split at h1
  · rename_i j
    split at h1
    · rename_i hj
      simp only [rDs, RDs, RD] at r1
      obtain ⟨v1, _, rfl, rfl, rfl⟩ := r1
      exact ⟨j, rfl, (inR_of hj).1, (inR_of hj).2, h1.ret rs1 (.rng 0 _)⟩
    · exact h1.elim
  · exact h1.elim
theorem si_range2 (hg : Gl X "range") (hm : X.mg "range" = none) (ha : SA X W [e, e2] ms) (hs : starEach [e, e2] X.env = [(false, eval e X.env), (false, eval e2 X.env)] := by rfl) (hs2 : starEach [e2] X.env = [(false, eval e2 X.env)] := by rfl) :
    SI X W tg (.Call (.Name "range" p) [e, e2] [] pos) (iRg2 ms) := by
  refine PI.imp (pi_range2 hg hm ha hs hs2) fun σ H Q h => ?_
  obtain ⟨ι, ρ, S, re, rs, h⟩ := h
  refine ⟨ι, ρ, S, re, rs, PR.imp (fun v H1 hh => ?_) (PR.bind (rel := rDs X.K) h)⟩
  obtain ⟨ι1, d, S1, x1, rs1, r1, h1⟩ := hh
  split at h1
  · rename_i i j
    split at h1
    · rename_i hj
      rw [Bool.and_eq_true] at hj
      simp only [rDs, RDs, RD] at r1
      obtain ⟨v1, _, rfl, rfl, v2, _, rfl, rfl, rfl⟩ := r1
      exact ⟨i, j, rfl, ⟨(inR_of hj.1).1, (inR_of hj.1).2, (inR_of hj.2).1, (inR_of hj.2).2⟩, h1.ret rs1 (.rng i _)⟩
    · exact h1.elim
  · exact h1.elim
theorem si_enum {elts : List Expr} {kk : Nat} {tpos : Pos} (hg : Gl X "enumerate") (hm : X.mg "enumerate" = none) (ha : SA X W [e] ms) (hs : starEach [e] X.env = [(false, eval e X.env)] := by rfl) :
    SI X W (.Tuple elts kk tpos) (.Call (.Name "enumerate" p) [e] [] pos) (iEn ms) := by
  refine PI.imp (pi_enum hg hm ha hs) fun σ H Q h => ?_
  obtain ⟨ι, ρ, S, re, rs, h⟩ := h
  refine ⟨ι, ρ, S, re, rs, PR.imp (fun v H1 hh => ?_) (PR.bind (rel := rDs X.K) h)⟩
  obtain ⟨ι1, d, S1, x1, rs1, r1, h1⟩ := hh
  split at h1
  · rename_i n
    split at h1
    · rename_i hs
      obtain ⟨xs, hx⟩ := Option.isSome_iff_exists.mp hs
      simp only [rDs, RDs] at r1
      obtain ⟨v1, _, rfl, r1, rfl⟩ := r1
      obtain ⟨p, vs, rfl, hp, q, r⟩ := rs1.seq hx r1
      exact ⟨p, vs, rfl, q, h1.ret rs1 (.enL hp)⟩
    · exact h1.elim
  · exact h1.elim
theorem si_zip {elts : List Expr} {kk : Nat} {tpos : Pos} (hg : Gl X "zip") (hm : X.mg "zip" = none) (ha : SA X W [e, e2] ms)
    (hs : starEach [e, e2] X.env = (false, eval e X.env) :: starEach [e2] X.env := by rfl) (hpl : (backTo pos (starEach [e2] X.env)).any (·.1) = false := by rfl) :
    SI X W (.Tuple elts kk tpos) (.Call (.Name "zip" p) [e, e2] [] pos) (iZp ms) := by
  refine PI.imp (RZ.pi_zipA hg hm ha hs hpl) fun σ H Q h => ?_
  obtain ⟨ι, ρ, S, re, rs, h⟩ := h
  refine ⟨ι, ρ, S, re, rs, PR.imp (fun v H1 hh => ?_) (PR.bind (rel := rDs X.K) h)⟩
  obtain ⟨ι1, d, S1, x1, rs1, r1, h1⟩ := hh
  split at h1
  · rename_i n m'
    split at h1
    · rename_i hs
      rw [Bool.and_eq_true] at hs
      obtain ⟨xs, hx⟩ := Option.isSome_iff_exists.mp hs.1
      obtain ⟨ys, hy⟩ := Option.isSome_iff_exists.mp hs.2
      simp only [rDs, RDs] at r1
      obtain ⟨v1, _, rfl, r1, v2, _, rfl, r2, rfl⟩ := r1
      obtain ⟨p, vs, rfl, hp, q, r⟩ := rs1.seq hx r1
      obtain ⟨p2, us, rfl, hp2, q2, r2⟩ := rs1.seq hy r2
      exact ⟨p, p2, vs, us, rfl, .inl ⟨q, q2, h1.ret rs1 (.zpL hp hp2)⟩⟩
    · exact h1.elim
  · rename_i xs ys
    simp only [rDs, RDs, RD] at r1
    obtain ⟨v1, _, rfl, ⟨p, vs, rfl, q, r⟩, v2, _, rfl, ⟨p2, us, rfl, q2, r2⟩, rfl⟩ := r1
    exact ⟨p, p2, vs, us, rfl, .inr ⟨q, q2, h1.ret rs1 (.zpT q q2 r r2)⟩⟩
  · exact h1.elim
end

/-! ### for, while -/
/-- more than any list has items -/
def FUEL : Nat := 2 ^ 24 + 100
def loopF (s : Src) (t : Tg) (b : SM) : Nat → Nat → Ev → Sto → SR
  | 0, _, _, _ => .stk
  | f + 1, i, ρ, S => match s.at_ i S with
    | none => .stk
    | some none => .nx ρ S
    | some (some d) => match t.put d ρ with
      | none => .stk
      | some ρ1 => match b ρ1 S with
        | .nx ρ2 S2 => loopF s t b f (i + 1) ρ2 S2
        | .ct ρ2 S2 => loopF s t b f (i + 1) ρ2 S2
        | .bk ρ2 S2 => .nx ρ2 S2
        | .rt d S2 => .rt d S2
        | .ex e ρ2 S2 => .ex e ρ2 S2
        | .stk => .stk
def sFor (ms : IM) (t : Tg) (b : SM) : SM := fun ρ S => (ms ρ S).bindS ρ fun s S1 => loopF s t b FUEL 0 ρ S1
def loopW (c : TM) (b : SM) : Nat → Ev → Sto → SR
  | 0, _, _ => .stk
  | f + 1, ρ, S => (c ρ S).bindS ρ fun k S1 => if k = true then (match b ρ S1 with
      | .nx ρ2 S2 => loopW c b f ρ2 S2
      | .ct ρ2 S2 => loopW c b f ρ2 S2
      | .bk ρ2 S2 => .nx ρ2 S2
      | .rt d S2 => .rt d S2
      | .ex e ρ2 S2 => .ex e ρ2 S2
      | .stk => .stk) else .nx ρ S1
def sWhile (c : TM) (b : SM) : SM := fun ρ S => loopW c b FUEL ρ S
section
variable {X : Cx} {W : WX} {tg iter : Expr} {body : List Stmt} {pos : Pos} {ms : IM} {t : Tg} {b : SM} {c : TM}
theorem ss_for (hp : PassesOwn (model X.prog X.w) X.A X.env X.xe) (hc : X.calm = true) (hi : SI X W tg iter ms) (hg : PG X tg (t.g X.K)) (hb : SSs X W body b)
    (hs : ∀ x, foldedSetIterable iter X.env x = pure x := by intro _; rfl) : SS X W (.For tg iter body [] pos) (sFor ms t b) := by
  refine PS.imp (ps_for hp hc hi hg hb hs) fun D σ H h => ?_
  obtain ⟨ι, ρ, S, re, rs, h⟩ := h
  refine ⟨ι, ρ, S, re, rs, PR.imp (fun J H1 hh => ?_) (PR.bindS (rel := rI X.K) re h)⟩
  obtain ⟨ι1, s, S1, x1, rs1, ok, h1⟩ := hh
  refine ⟨fun i m σ' H' => ∃ ι' ρ' S', Ext X.K ι1 H1 ι' H' ∧ RE X.K ι' H' ρ' σ' ∧ RS X.K ι' H' S' ∧ PQ X.K W ι' H' D (loopF s t b m i ρ' S'), ⟨FUEL, ι1, ρ, S1, .refl, re.mono x1, rs1, h1⟩, fun i m σ' H' hw => ?_⟩
  obtain ⟨ι', ρ', S', x', re', rs', h'⟩ := hw
  cases m with
  | zero => exact h'.elim
  | succ m =>
    unfold loopF at h'
    have k := ok ι' H' S' i x' rs'
    cases ea : s.at_ i S' with
    | none => rw [ea] at h'; exact h'.elim
    | some o =>
      rw [ea] at h' k
      cases o with
      | none => exact .inl ⟨k, h'.next rs' re'⟩
      | some d =>
        obtain ⟨go, yl⟩ := k
        refine .inr ⟨go, fun σ2 H2 => ∃ ι2 ρ2 S2, Ext X.K ι1 H1 ι2 H2 ∧ RE X.K ι2 H2 ρ2 σ2 ∧ RS X.K ι2 H2 S2 ∧ PQ X.K W ι2 H2 D (loopF s t b m (i + 1) ρ2 S2), fun σ2 H2 q => ⟨m, Nat.lt_succ_self _, q⟩, fun v H2 hy => ?_⟩
        obtain ⟨ι2, x2, rs2, r2⟩ := yl v H2 hy
        dsimp only at h'
        cases et : t.put d ρ' with
        | none => rw [et] at h'; exact h'.elim
        | some ρ1 =>
          rw [et] at h'
          refine Tg.g_of t (re'.mono x2) r2 et fun σ3 re3 _ => ⟨ι2, ρ1, S', re3, rs2, ?_⟩
          dsimp only at h'
          cases eb : b ρ1 S' with
          | stk => rw [eb] at h'; exact h'
          | nx ρ4 S4 =>
            rw [eb] at h'
            exact fun ι4 σ4 H4 x4 rs4 re4 => ⟨ι4, ρ4, S4, x'.trans (x2.trans x4), re4, rs4, PQ.mono (x2.trans x4) h'⟩
          | ct ρ4 S4 =>
            rw [eb] at h'
            exact fun ι4 σ4 H4 x4 rs4 re4 => ⟨ι4, ρ4, S4, x'.trans (x2.trans x4), re4, rs4, PQ.mono (x2.trans x4) h'⟩
          | bk ρ4 S4 =>
            rw [eb] at h'
            exact fun ι4 σ4 H4 x4 rs4 re4 => h' ι4 σ4 H4 (x2.trans x4) rs4 re4
          | rt d S4 =>
            rw [eb] at h'
            exact fun ι4 σ4 H4 x4 rs4 re4 => h' ι4 σ4 H4 (x2.trans x4) rs4 re4
          | ex e ρ4 S4 =>
            rw [eb] at h'
            exact fun ι4 σ4 H4 cls dd x4 rs4 re4 => h' ι4 σ4 H4 cls dd (x2.trans x4) rs4 re4
theorem ss_while {e : Expr} (hp : PassesOwn (model X.prog X.w) X.A X.env X.xe) (hc : ST X W e c) (hb : SSs X W body b) : SS X W (.While e body [] pos) (sWhile c b) := by
  refine PS.imp (ps_while hp hc hb) fun D σ H h => ?_
  obtain ⟨ι, ρ, S, re, rs, h⟩ := h
  refine ⟨fun m σ' H' => ∃ ι' ρ' S', RE X.K ι' H' ρ' σ' ∧ RS X.K ι' H' S' ∧ PQ X.K W ι' H' D (loopW c b m ρ' S'), ⟨FUEL, ι, ρ, S, re, rs, h⟩, fun m σ' H' hw => ?_⟩
  obtain ⟨ι', ρ', S', re', rs', h'⟩ := hw
  cases m with
  | zero => exact h'.elim
  | succ m =>
    unfold loopW at h'
    refine ⟨ι', ρ', S', re', rs', PR.imp (fun k H1 hh => ?_) (PR.bindS (rel := rB) re' h')⟩
    obtain ⟨ι1, d, S1, x1, rs1, r1, h1⟩ := hh
    cases r1
    cases k with
    | false => exact iteF (h1.next rs1 (re'.mono x1))
    | true =>
      refine iteT ⟨fun σ2 H2 => ∃ ι2 ρ2 S2, RE X.K ι2 H2 ρ2 σ2 ∧ RS X.K ι2 H2 S2 ∧ PQ X.K W ι2 H2 D (loopW c b m ρ2 S2), fun σ2 H2 q => ⟨m, Nat.lt_succ_self _, q⟩, ι1, ρ', S1, re'.mono x1, rs1, ?_⟩
      simp only [if_true] at h1
      cases eb : b ρ' S1 with
      | stk => rw [eb] at h1; exact h1
      | nx ρ4 S4 =>
        rw [eb] at h1
        exact fun ι4 σ4 H4 x4 rs4 re4 => ⟨ι4, ρ4, S4, re4, rs4, PQ.mono x4 h1⟩
      | ct ρ4 S4 =>
        rw [eb] at h1
        exact fun ι4 σ4 H4 x4 rs4 re4 => ⟨ι4, ρ4, S4, re4, rs4, PQ.mono x4 h1⟩
      | bk ρ4 S4 => rw [eb] at h1; exact h1
      | rt d S4 => rw [eb] at h1; exact h1
      | ex e ρ4 S4 => rw [eb] at h1; exact h1
end

/-! ### comprehensions -/
def wipeE (ρ : Ev) : List Nat → Ev
  | [] => ρ
  | v :: vs => (wipeE ρ vs).set v none
theorem wipeE_len (ρ : Ev) : ∀ vs : List Nat, (wipeE ρ vs).length = ρ.length
  | [] => rfl
  | v :: vs => by unfold wipeE; rw [List.length_set, wipeE_len ρ vs]
theorem RE.wipe {K : PySem.W.Frag} {ι : List Addr} {H : Hp} {ρ : Ev} {σ : L2.St} (r : RE K ι H ρ σ) : ∀ vs : List Nat, RE K ι H (wipeE ρ vs) (L2.wipe σ vs)
  | [] => r
  | v :: vs => by
    have ih := RE.wipe r vs
    refine ⟨by unfold wipeE L2.wipe; rw [List.length_set, List.length_set]; exact ih.len, fun i d e => ?_⟩
    unfold wipeE at e
    by_cases hi : i = v
    · subst hi
      have hl : i < (wipeE ρ vs).length := by
        have := (List.getElem?_eq_some_iff.mp e).1
        simpa using this
      rw [List.getElem?_set_self hl] at e
      cases e
    · rw [List.getElem?_set_ne (Ne.symm hi)] at e
      obtain ⟨u, a, b⟩ := ih.at_ i d e
      exact ⟨u, by unfold L2.wipe; rw [List.getElem?_set_ne (Ne.symm hi)]; exact a, b⟩
theorem wipe_at (σ : L2.St) : ∀ (vs : List Nat) (i : Nat), (L2.wipe σ vs)[i]? = if i ∈ vs then (if i < σ.length then some none else none) else σ[i]?
  | [], i => by simp [L2.wipe]
  | v :: vs, i => by
    unfold L2.wipe
    by_cases hi : i = v
    · subst hi
      rw [List.getElem?_set, if_pos rfl, L2.wipe_length, if_pos List.mem_cons_self]
    · rw [List.getElem?_set_ne (Ne.symm hi), wipe_at σ vs i]
      have : i ∈ v :: vs ↔ i ∈ vs := by simp [hi]
      by_cases hm : i ∈ vs
      · rw [if_pos hm, if_pos (this.mpr hm)]
      · rw [if_neg hm, if_neg (fun z => hm (this.mp z))]
theorem wipe_again {σ σ2 : L2.St} {vs sl : List Nat} (hl : σ2.length = σ.length) (hs : ∀ i ∈ sl, i ∈ vs) (k : ∀ i, i ∉ sl → σ2[i]? = (L2.wipe σ vs)[i]?) : L2.wipe σ2 vs = L2.wipe σ vs := by
  refine List.ext_getElem? fun i => ?_
  rw [wipe_at σ2, wipe_at σ]
  by_cases hm : i ∈ vs
  · rw [if_pos hm, if_pos hm, hl]
  · rw [if_neg hm, if_neg hm, k i fun z => hm (hs i z), wipe_at, if_neg hm]
mutual
theorem Tg.put_len : ∀ (t : Tg) {d : D} {ρ ρ' : Ev}, t.put d ρ = some ρ' → ρ'.length = ρ.length
  | .nm i, d, ρ, ρ', h => by simp only [Tg.put, Option.some.injEq] at h; subst h; simp
  | .tp ts, d, ρ, ρ', h => by
    cases d with
    | tup xs => simp only [Tg.put] at h; exact Tg.puts_len2 ts h
    | _ => simp only [Tg.put] at h; cases h
theorem Tg.puts_len2 : ∀ (ts : List Tg) {ds : List D} {ρ ρ' : Ev}, Tg.puts ts ds ρ = some ρ' → ρ'.length = ρ.length
  | [], ds, ρ, ρ', h => by
    cases ds with
    | nil => simp only [Tg.puts, Option.some.injEq] at h; subst h; rfl
    | cons d ds => simp only [Tg.puts] at h; cases h
  | t :: ts, ds, ρ, ρ', h => by
    cases ds with
    | nil => simp only [Tg.puts] at h; cases h
    | cons d ds =>
      simp only [Tg.puts] at h
      cases e : t.put d ρ with
      | none => rw [e] at h; cases h
      | some ρ1 => rw [e] at h; exact (Tg.puts_len2 ts h).trans (Tg.put_len t e)
end
def loopC (s : Src) (t : Tg) (c : TM) (el : EM) (ρ0 : Ev) (a : Nat) : Nat → Nat → Sto → R D
  | 0, _, _ => .stk
  | f + 1, i, S => match s.at_ i S with
    | none => .stk
    | some none => .ok (.ref a) S
    | some (some d) => match t.put d ρ0 with
      | none => .stk
      | some ρ1 => match c ρ1 S with
        | .ok false S1 => loopC s t c el ρ0 a f (i + 1) S1
        | .ok true S1 => match el ρ1 S1 with
          | .ok y S2 => match S2[a]? with
            | some (.lst acc) => if acc.length < sizeLine then loopC s t c el ρ0 a f (i + 1) (S2.set a (.lst (acc ++ [y]))) else .stk
            | _ => .stk
          | _ => .stk
        | _ => .stk
def tTrue : TM := fun _ S => .ok true S
def mLc (ms : IM) (t : Tg) (c : TM) (el : EM) (vs : List Nat) : EM := fun ρ S => (ms ρ S).bind fun s S1 => loopC s t c el (wipeE ρ vs) S1.length FUEL 0 (S1 ++ [.lst []])
abbrev W0 : WX := fun _ _ _ _ => False
section
variable {X : Cx} {W : WX} {elt tg iter : Expr} {ifs : List Expr} {scope : Scope} {own : List (Str × Nat)} {pos : Pos} {ms : IM} {t : Tg} {c : TM} {el : EM}
abbrev STs (X : Cx) (W : WX) (ifs : List Expr) (m : TM) : Prop := PTs X ifs (tMT X.K W m)
theorem sts_nil : STs X W [] tTrue := ⟨fun pins s σ H Q I h => pts_nil.run pins s σ H Q I (by obtain ⟨ι, ρ, S, re, rs, h⟩ := h; exact h.ret rs rfl)⟩
theorem sts_one {e : Expr} {m : TM} (h : ST X W e m) : STs X W [e] m := pts_one h
theorem lc_go {K : PySem.W.Frag} {σ : L2.St} {H : Hp} {Q : VK} (hsl : ∀ i ∈ t.slots, i ∈ own.map (·.2)) (h : tM K W (mLc ms t c el (own.map (·.2))) σ H Q) :
    tLc (tG K (rI K) W ms) (t.g K) (tMT K W0 c) (tM K W0 el) (own.map (·.2)) σ H Q := by
  obtain ⟨ι, ρ, S, re, rs, h⟩ := h
  refine ⟨ι, ρ, S, re, rs, PR.imp (fun J H1 hh => ?_) (PR.bind (rel := rI K) h)⟩
  obtain ⟨ι1, s, S1, x1, rs1, ok, h1⟩ := hh
  intro Dd hD
  have hW := (re.mono x1).wipe (own.map (·.2))
  have hL : (ι1 ++ [Dd])[S1.length]? = some Dd := by rw [← rs1.len]; simp
  refine ⟨fun i m H' => ∃ ι' S', Ext K (ι1 ++ [Dd]) (upd H1 Dd (.lst [])) ι' H' ∧ RS K ι' H' S' ∧ PR K (rD K) W σ ι' H' Q (loopC s t c el (wipeE ρ (own.map (·.2))) S1.length m i S'), ⟨FUEL, ι1 ++ [Dd], S1 ++ [.lst []], .refl, rs1.push (c := .lst []) hD rfl ⟨[], upd_same, RDs.nil⟩, PR.mono (.push hD) h1⟩, fun i m H' hw => ?_⟩
  obtain ⟨ι', S', x', rs', h'⟩ := hw
  have x1' : Ext K ι1 H1 ι' H' := (Ext.push hD).trans x'
  cases m with
  | zero => exact h'.elim
  | succ m =>
    unfold loopC at h'
    have k := ok ι' H' S' i x1' rs'
    cases ea : s.at_ i S' with
    | none => rw [ea] at h'; exact h'.elim
    | some o =>
      rw [ea] at h' k
      cases o with
      | none => exact .inl ⟨k, h'.ret rs' (by simp only [RD]; exact ⟨Dd, rfl, x'.ix hL⟩)⟩
      | some d =>
        obtain ⟨go, yl⟩ := k
        refine .inr ⟨go, fun H2 => ∃ ι2 S2, Ext K (ι1 ++ [Dd]) (upd H1 Dd (.lst [])) ι2 H2 ∧ RS K ι2 H2 S2 ∧ PR K (rD K) W σ ι2 H2 Q (loopC s t c el (wipeE ρ (own.map (·.2))) S1.length m (i + 1) S2), fun H2 q => ⟨m, Nat.lt_succ_self _, q⟩, fun v H2 hy => ?_⟩
        obtain ⟨ι2, x2, rs2, r2⟩ := yl v H2 hy
        dsimp only at h'
        cases et : t.put d (wipeE ρ (own.map (·.2))) with
        | none => rw [et] at h'; exact h'.elim
        | some ρ1 =>
          rw [et] at h'
          have reW : RE K ι2 H2 (wipeE ρ (own.map (·.2))) (L2.wipe σ (own.map (·.2))) := (hW.mono x1').mono x2
          refine Tg.g_of t reW r2 et fun σ3 re3 k3 => ⟨?_, ι2, ρ1, S', re3, rs2, ?_⟩
          · refine wipe_again ?_ hsl k3
            have e1 := re3.len
            have e2 : ρ1.length = (wipeE ρ (own.map (·.2))).length := Tg.put_len t et
            rw [e2, wipeE_len] at e1
            rw [← e1]; exact re.len
          · dsimp only at h'
            cases ec : c ρ1 S' with
            | stk => rw [ec] at h'; exact h'.elim
            | ex e S4 => rw [ec] at h'; exact h'.elim
            | ok kk S4 =>
              rw [ec] at h'
              refine fun ι4 bb H4 x4 rs4 r4 => ?_
              cases r4
              cases kk with
              | false => exact iteF ⟨ι4, S4, x'.trans (x2.trans x4), rs4, PR.mono (x2.trans x4) h'⟩
              | true =>
                refine iteT ⟨ι4, ρ1, S4, re3.mono x4, rs4, ?_⟩
                dsimp only at h'
                cases ee : el ρ1 S4 with
                | stk => rw [ee] at h'; exact h'.elim
                | ex e S5 => rw [ee] at h'; exact h'.elim
                | ok y S5 =>
                  rw [ee] at h'
                  refine fun ι5 u H5 x5 rs5 r5 => ?_
                  dsimp only at h'
                  have xx := x2.trans (x4.trans x5)
                  split at h'
                  · rename_i acc eacc
                    split at h'
                    · rename_i hz
                      obtain ⟨p, vs, ep, hp, hH, rr⟩ := rs5.lst (v := .ref Dd) eacc (by simp only [RD]; exact ⟨Dd, rfl, xx.ix (x'.ix hL)⟩)
                      cases ep
                      have xp : Ext K ι5 H5 ι5 (upd H5 Dd (.lst (vs ++ [u]))) := .put hH (fun _ z => by cases z) (fun _ _ z => by cases z) trivial
                      refine ⟨vs, hH, by rw [rr.length]; exact hz, ι5, S5.set S1.length (.lst (acc ++ [y])), x'.trans (xx.trans xp), ?_, PR.mono (xx.trans xp) h'⟩
                      exact rs5.put eacc hp rfl rfl ⟨vs ++ [u], upd_same, RDs.mono xp (rr.append (.cons r5 .nil))⟩
                    · exact h'.elim
                  · exact h'.elim
theorem se_lc (hc : X.calm = true) (hN : X.N.Nodup) (hi : SI X W tg iter ms) (ok : BlkOk X.N X.env.scope scope own)
    (hg : ∀ (s : Shared) (H : Hp) (C : Addr) (cl : List (Str × Addr)) (fp : List Addr), PG (X.blk s H scope (compEnvC scope cl C X.env) fp) tg (t.g X.K))
    (ht : ∀ (s : Shared) (H : Hp) (C : Addr) (cl : List (Str × Addr)) (fp : List Addr), STs (X.blk s H scope (compEnvC scope cl C X.env) fp) W0 ifs c)
    (he : ∀ (s : Shared) (H : Hp) (C : Addr) (cl : List (Str × Addr)) (fp : List Addr), SE (X.blk s H scope (compEnvC scope cl C X.env) fp) W0 elt el) (hsl : ∀ i ∈ t.slots, i ∈ own.map (·.2)) (hs : ∀ x, foldedSetIterable iter X.env x = pure x := by intro _; rfl) :
    SE X W (.ListComp elt [⟨tg, iter, ifs, 0⟩] scope pos) (mLc ms t c el (own.map (·.2))) :=
  PE.imp (pe_lc hc hN hi ok hg ht he hs) fun _ _ _ h => lc_go hsl h
theorem ss_setLc (i : Nat) {y : Str} {py spos : Pos} (hc : X.calm = true) (hN : X.N.Nodup) (hi : SI X W tg iter ms) (ok : BlkOk X.N X.env.scope scope own)
    (hg : ∀ (s : Shared) (H : Hp) (C : Addr) (cl : List (Str × Addr)) (fp : List Addr), PG (X.blk s H scope (compEnvC scope cl C X.env) fp) tg (t.g X.K))
    (ht : ∀ (s : Shared) (H : Hp) (C : Addr) (cl : List (Str × Addr)) (fp : List Addr), STs (X.blk s H scope (compEnvC scope cl C X.env) fp) W0 ifs c)
    (he : ∀ (s : Shared) (H : Hp) (C : Addr) (cl : List (Str × Addr)) (fp : List Addr), SE (X.blk s H scope (compEnvC scope cl C X.env) fp) W0 elt el) (hsl : ∀ i ∈ t.slots, i ∈ own.map (·.2))
    (hsw : swapsWith (.ListComp elt [⟨tg, iter, ifs, 0⟩] scope pos) (some (.Name y py)) spos.line X.env = pure true) (hy : X.N[i]? = some y := by rfl) (hyl : X.env.scope.names.lookup y = some .local := by rfl) (hs : ∀ x, foldedSetIterable iter X.env x = pure x := by intro _; rfl) :
    SS X W (.Assign [.Name y py] (.ListComp elt [⟨tg, iter, ifs, 0⟩] scope pos) spos) (sSet i (mLc ms t c el (own.map (·.2)))) := by
  refine PS.imp (ps_setLc hc hN hy hyl hsw hi ok hg ht he hs) fun D σ H h => lc_go hsl ?_
  obtain ⟨ι, ρ, S, re, rs, h⟩ := h
  refine ⟨ι, ρ, S, re, rs, PR.imp (fun v H1 hh => ?_) (PR.bindS (rel := rD X.K) re h)⟩
  obtain ⟨ι1, d, S1, x1, rs1, r1, h1⟩ := hh
  exact h1.next rs1 ((re.mono x1).put r1)
end
end DL

/-! the D-layer: operators, subscripts, comparisons -/
namespace DL
open PySem L2

section
variable {X : Cx}
theorem OpR.or {f : Value → Value → Sem Value} {r r' : R2} (h : OpR X f r) (h' : OpR X f r') : OpR X f (fun x y H Q => r x y H Q ∨ r' x y H Q) :=
  fun pins s σ H x y v u Q I rx ry w => w.elim (h pins s σ H x y v u Q I rx ry) (h' pins s σ H x y v u Q I rx ry)
theorem PE.or {e : Expr} {t t' : TE} (h : PE X e t) (h' : PE X e t') : PE X e (fun σ H Q => t σ H Q ∨ t' σ H Q) :=
  ⟨fun pins s σ H Q I w => w.elim (h.run pins s σ H Q I) (h'.run pins s σ H Q I)⟩
theorem PT.or {e : Expr} {t t' : TT} (h : PT X e t) (h' : PT X e t') : PT X e (fun σ H Q => t σ H Q ∨ t' σ H Q) :=
  ⟨fun pins s σ H Q I w => w.elim (h.run pins s σ H Q I) (h'.run pins s σ H Q I)⟩
theorem OpR.imp {f : Value → Value → Sem Value} {r r' : R2} (h : OpR X f r) (q : ∀ x y H Q, r' x y H Q → r x y H Q) : OpR X f r' :=
  fun pins s σ H x y v u Q I rx ry w => h pins s σ H x y v u Q I rx ry (q _ _ _ _ w)
end

/-! ### arithmetic -/
def dAdd : DOp := fun x y S => match x, y with
  | .int i, .int j => some (.int (i + j), S)
  | .int i, .bl k => some (.int (i + PyProof.Rows.b2i k), S)
  | .str a, .str b => if a.length + b.length ≤ sizeLine then some (.str (a ++ b), S) else none
  | .tup xs, .tup ys => if xs.length + ys.length ≤ sizeLine then some (.tup (xs ++ ys), S) else none
  | .ref n, .ref m => match S[n]?, S[m]? with
    | some (.lst xs), some (.lst ys) => if xs.length + ys.length ≤ sizeLine then some (.ref S.length, S ++ [.lst (xs ++ ys)]) else none
    | _, _ => none
  | _, _ => none
def dI (f : Int → Int → Int) (c : Int → Int → Bool) : DOp := fun x y S => match x, y with
  | .int i, .int j => if c i j = true then some (.int (f i j), S) else none
  | _, _ => none
def cMul (i j : Int) : Bool := (decide (-(2 ^ 64) < i) && decide (i < 2 ^ 64)) || (decide (-(2 ^ 64) < j) && decide (j < 2 ^ 64))
/-- a text of at most 2^20 signs -/
def mulOk (z : Str) (k : Int) : Bool := decide (0 ≤ k) && decide (k < 2 ^ 20) && decide (z.length < 2 ^ 20) && decide (z.length * k.toNat ≤ sizeLine)
theorem mulOk_ok {z : Str} {k : Int} (h : mulOk z k = true) : MulOk z k := by
  unfold mulOk at h
  simp only [Bool.and_eq_true, decide_eq_true_eq] at h
  obtain ⟨⟨⟨h0, h1⟩, h2⟩, h3⟩ := h
  refine ⟨by simp only [Bool.or_eq_false_iff, decide_eq_false_iff_not]; omega, fun n1 _ => ?_, fun _ _ => ?_⟩
  · have hk : 0 < k := by omega
    have : (2 ^ 20 : Int) ≤ (2 ^ 63 - 1) / k := (Int.le_ediv_iff_mul_le hk).mpr (by omega)
    omega
  · show decide (z.length * k.toNat > sizeLine) = false
    simp only [decide_eq_false_iff_not]; omega
def dMul : DOp := fun x y S => match x, y with
  | .str z, .int k => if mulOk z k = true then some (.str (Txt.mul z k), S) else none
  | .int i, .int j => if cMul i j = true then some (.int (i * j), S) else none
  | .ref n, .int k => match S[n]? with
    | some (.lst xs) => if (decide (-(2 ^ 63) ≤ k) && decide (k < 2 ^ 63) && decide (xs.length * k.toNat ≤ sizeLine)) = true then some (.ref S.length, S ++ [.lst (List.replicate k.toNat xs).flatten]) else none
    | _ => none
  | _, _ => none
def dSub : DOp := dI (· - ·) fun _ _ => true
def dFdiv : DOp := dI Int.fdiv fun _ j => decide (j ≠ 0) && decide (j.natAbs < 1073741824)
def dMod : DOp := dI Int.fmod fun _ j => decide (j ≠ 0)
def dPow : DOp := dI (fun i j => i ^ j.toNat) fun i j => decide (0 ≤ j) && decide (j ≤ 1000000) && decide (i.natAbs < 2 ^ 64)
def dNeg (x : D) (S : Sto) : Option (D × Sto) := match x with
  | .int i => some (.int (-i), S)
  | _ => none
section
variable {X : Cx}
theorem o_int {f : Value → Value → Sem Value} {g : Int → Int → Int} {c : Int → Int → Bool} {C : Int → Int → Prop} (h : OpR X f (L2.rI C fun i j => .int (g i j))) (hc : ∀ i j, c i j = true → C i j) : OpR X f (rOp X.K (dI g c)) := by
  refine OpR.imp h fun a b H Q hh => ?_
  obtain ⟨ι, S, x, y, rs, rx, ry, hh⟩ := hh
  unfold dI at hh
  split at hh
  · rename_i i j
    split at hh
    · rename_i hcc
      simp only [RD] at rx ry
      exact ⟨i, j, rx, ry, hc i j hcc, hh.ret rs (by simp only [RD])⟩
    · exact hh.elim
  · exact hh.elim
theorem o_sub : OpR X (binaryOp .Sub) (rOp X.K dSub) := by
  refine OpR.imp op_sub fun a b H Q hh => ?_
  obtain ⟨ι, S, x, y, rs, rx, ry, hh⟩ := hh
  unfold dSub dI at hh
  split at hh
  · rename_i i j
    simp only [RD] at rx ry
    exact ⟨i, j, rx, ry, PV.ret hh rs (by simp only [RD])⟩
  · exact hh.elim
theorem o_fdiv : OpR X (binaryOp .FloorDiv) (rOp X.K dFdiv) := o_int op_fdivN fun i j h => by
  rw [Bool.and_eq_true] at h
  exact ⟨of_decide_eq_true h.1, of_decide_eq_true h.2⟩
theorem o_mod : OpR X (binaryOp .Mod) (rOp X.K dMod) := o_int op_modN fun i j h => of_decide_eq_true h
theorem o_pow : OpR X (binaryOp .Pow) (rOp X.K dPow) := o_int op_pow fun i j h => by
  rw [Bool.and_eq_true, Bool.and_eq_true] at h
  exact ⟨of_decide_eq_true h.1.1, of_decide_eq_true h.1.2, of_decide_eq_true h.2⟩
theorem RDs.rep {K : PySem.W.Frag} {ι : List Addr} {H : Hp} {xs : List D} {vs : List V} (h : RDs K ι H xs vs) : ∀ k : Nat, RDs K ι H (List.replicate k xs).flatten (List.replicate k vs).flatten
  | 0 => RDs.nil
  | k + 1 => by
    rw [List.replicate_succ, List.replicate_succ, List.flatten_cons, List.flatten_cons]
    exact h.append (RDs.rep h k)
theorem op_mulS : OpR X (binaryOp .Mult) (fun x y H Q => ∃ (z : Str) (k : Int), x = .str z ∧ y = .int k ∧ MulOk z k ∧ Q (.str (Txt.mul z k)) H) := by
  intro pins s σ H x y v u Q I rx ry h
  obtain ⟨z, k, rfl, rfl, ok, q⟩ := h
  obtain ⟨t, rfl⟩ := rx
  obtain ⟨t', rfl⟩ := ry
  exact SB.mul ok fun t2 k2 => ⟨.str _, H, I.tok _, ⟨_, rfl⟩, q⟩
theorem o_mul : OpR X (binaryOp .Mult) (rOp X.K dMul) := by
  refine OpR.imp (OpR.or (OpR.or op_mul op_rep) op_mulS) fun a b H Q hh => ?_
  obtain ⟨ι, S, x, y, rs, rx, ry, hh⟩ := hh
  unfold dMul at hh
  split at hh
  · rename_i z k
    split at hh
    · rename_i hc
      simp only [RD] at rx ry
      exact .inr ⟨z, k, rx, ry, mulOk_ok hc, PV.ret hh rs (by simp only [RD])⟩
    · exact hh.elim
  · rename_i i j
    split at hh
    · rename_i hc
      simp only [RD] at rx ry
      refine .inl (.inl ⟨i, j, rx, ry, ?_, PV.ret hh rs (by simp only [RD])⟩)
      unfold cMul at hc
      rw [Bool.or_eq_true, Bool.and_eq_true, Bool.and_eq_true] at hc
      rcases hc with hc | hc
      · exact .inl ⟨of_decide_eq_true hc.1, of_decide_eq_true hc.2⟩
      · exact .inr ⟨of_decide_eq_true hc.1, of_decide_eq_true hc.2⟩
    · exact hh.elim
  · rename_i n k
    split at hh
    · rename_i xs hn
      split at hh
      · rename_i hc
        rw [Bool.and_eq_true, Bool.and_eq_true] at hc
        obtain ⟨p, vs, rfl, _, hH, r⟩ := rs.lst hn rx
        simp only [RD] at ry
        exact .inl (.inr ⟨p, k, vs, rfl, ry, hH, of_decide_eq_true hc.1.1, of_decide_eq_true hc.1.2, by rw [r.length]; exact of_decide_eq_true hc.2, new_lst rs (r.rep _) hh⟩)
      · exact hh.elim
    · exact hh.elim
  · exact hh.elim
theorem u_neg : UnR X (unaryOp .USub) (rUn X.K dNeg) := by
  intro pins s σ H x v Q I r h
  refine un_neg pins s σ H x v Q I r ?_
  obtain ⟨ι, S, d, rs, rd, hh⟩ := h
  unfold dNeg at hh
  split at hh
  · rename_i i
    simp only [RD] at rd
    exact ⟨i, rd, PV.ret hh rs (by simp only [RD])⟩
  · exact hh.elim
theorem o_add : OpR X (binaryOp .Add) (rOp X.K dAdd) := by
  refine OpR.imp (OpR.or op_add (OpR.or op_add_ib (OpR.or op_add_str (OpR.or op_catA op_cat)))) fun a b H Q hh => ?_
  obtain ⟨ι, S, x, y, rs, rx, ry, hh⟩ := hh
  unfold dAdd at hh
  split at hh
  · rename_i i j
    simp only [RD] at rx ry
    exact .inl ⟨i, j, rx, ry, PV.ret hh rs (by simp only [RD])⟩
  · rename_i i j
    simp only [RD] at rx ry
    exact .inr (.inl ⟨i, j, rx, ry, PV.ret hh rs (by simp only [RD])⟩)
  · rename_i i j
    split at hh
    · rename_i hz
      simp only [RD] at rx ry
      exact .inr (.inr (.inl ⟨i, j, rx, ry, hz, PV.ret hh rs (by simp only [RD])⟩))
    · exact hh.elim
  · rename_i xs ys
    split at hh
    · rename_i hz
      simp only [RD] at rx ry
      obtain ⟨p, vs, rfl, q, r⟩ := rx
      obtain ⟨p2, us, rfl, q2, r2⟩ := ry
      refine .inr (.inr (.inr (.inl ⟨p, p2, vs, us, rfl, rfl, q, q2, by rw [r.length, r2.length]; exact hz, fun e => ?_, fun _ e => ?_, fun _ _ => new_tup rs (r.append r2) hh⟩)))
      · have e' := r.nil_iff.mp e
        subst e'
        exact PV.ret hh rs (by simp only [RD, List.nil_append]; exact ⟨p2, us, rfl, q2, r2⟩)
      · have e' := r2.nil_iff.mp e
        subst e'
        exact PV.ret hh rs (by simp only [RD, List.append_nil]; exact ⟨p, vs, rfl, q, r⟩)
    · exact hh.elim
  · rename_i n m
    split at hh
    · rename_i xs ys hn hm
      split at hh
      · rename_i hz
        obtain ⟨p, vs, rfl, _, hH, r⟩ := rs.lst hn rx
        obtain ⟨p2, us, rfl, _, hH2, r2⟩ := rs.lst hm ry
        exact .inr (.inr (.inr (.inr ⟨p, p2, vs, us, rfl, rfl, hH, hH2, by rw [r.length, r2.length]; exact hz, new_lst rs (r.append r2) hh⟩)))
      · exact hh.elim
    · exact hh.elim
  · exact hh.elim
end

/-! ### data to be compared, shown -/
mutual
def toPw (g : Nat → Option PyData) : D → Option PyData
  | .non => some .none
  | .bl b => some (.bool b)
  | .int i => some (.int i)
  | .str x => some (.str x)
  | .tup xs => (toPws g xs).map .tuple
  | .ref n => g n
  | .raw _ => none
def toPws (g : Nat → Option PyData) : List D → Option (List PyData)
  | [] => some []
  | d :: ds => (toPw g d).bind fun p => (toPws g ds).map fun ps => p :: ps
end
def keyP : Key → PyData
  | .inl i => .int i
  | .inr x => .str x
def gP : Nat → Sto → Nat → Option PyData
  | 0, _, _ => none
  | k + 1, S, n => match S[n]? with
    | some (.lst xs) => (toPws (gP k S) xs).map .list
    | some (.fz xs) => (toPws (gP k S) xs).map .list
    | some (.dct kvs) => (toPws (gP k S) (kvs.map (·.2))).map fun ps => .dict ((kvs.map fun kv => keyP kv.1).zip ps)
    | _ => none
def LEV : Nat := 30
def toP (S : Sto) (d : D) : Option PyData := toPw (gP LEV S) d
section
variable {X : Cx} {pins : List (Addr × Obj)} {σ : L2.St} {H : Hp} {s : Shared} {ι : List Addr} {S : Sto}
/-- what is read of data -/
def RdOk (h : Heap) (u : Value) (p : PyData) : Prop := ∃ as, Reads h u p as ∧ sysModules ∉ as
def RdsOk (h : Heap) (us : List Value) (ps : List PyData) : Prop := ∃ as, ReadsAll h us ps as ∧ sysModules ∉ as
theorem sysModules_lt (I : Inv X pins σ H s) : sysModules < s.heap.objs.size := I.big
mutual
theorem rd_reads (I : Inv X pins σ H s) {g : Nat → Option PyData} (hg : ∀ n p pd, ι[n]? = some p → g n = some pd → RdOk s.heap (.ref p) pd) :
    ∀ (d : D) {v : V} {u : Value} {pd : PyData}, RD X.K ι H d v → RelV v u → toPw g d = some pd → RdOk s.heap u pd
  | .non, v, u, pd, r, rv, e => by
    simp only [RD] at r; subst r; simp only [toPw, Option.some.injEq] at e; subst e; cases rv
    exact ⟨[], .none, by simp⟩
  | .bl b, v, u, pd, r, rv, e => by
    simp only [RD] at r; subst r; simp only [toPw, Option.some.injEq] at e; subst e; cases rv
    exact ⟨[], .bool b, by simp⟩
  | .int i, v, u, pd, r, rv, e => by
    simp only [RD] at r; subst r; simp only [toPw, Option.some.injEq] at e; subst e; obtain ⟨t, rfl⟩ := rv
    exact ⟨[], .int i t, by simp⟩
  | .str x, v, u, pd, r, rv, e => by
    simp only [RD] at r; subst r; simp only [toPw, Option.some.injEq] at e; subst e; obtain ⟨t, rfl⟩ := rv
    exact ⟨[], .str x t, by simp⟩
  | .tup xs, v, u, pd, r, rv, e => by
    simp only [RD] at r
    obtain ⟨p, vs, rfl, q, rr⟩ := r
    simp only [toPw] at e
    cases ep : toPws g xs with
    | none => rw [ep] at e; cases e
    | some ps =>
      rw [ep] at e
      simp only [Option.map_some, Option.some.injEq] at e
      subst e
      cases rv
      obtain ⟨its, rv, ⟨o, ho, hc, n, hd⟩, _⟩ := I.tuple q
      obtain ⟨as, ra, na⟩ := rds_reads I hg xs rr rv ep
      exact ⟨as, .tuple ho hc hd (by simpa using ra), na⟩
  | .ref n, v, u, pd, r, rv, e => by
    simp only [RD] at r
    obtain ⟨p, rfl, hp⟩ := r
    cases rv
    simp only [toPw] at e
    exact hg n p pd hp e
  | .raw w, v, u, pd, r, rv, e => by simp only [toPw] at e; cases e
theorem rds_reads (I : Inv X pins σ H s) {g : Nat → Option PyData} (hg : ∀ n p pd, ι[n]? = some p → g n = some pd → RdOk s.heap (.ref p) pd) :
    ∀ (ds : List D) {vs : List V} {us : List Value} {ps : List PyData}, RDs X.K ι H ds vs → Vals vs us → toPws g ds = some ps → RdsOk s.heap us ps
  | [], vs, us, ps, r, rv, e => by
    simp only [RDs] at r; subst r; simp only [toPws, Option.some.injEq] at e; subst e; cases rv
    exact ⟨[], .nil, by simp⟩
  | d :: ds, vs, us, ps, r, rv, e => by
    simp only [RDs] at r
    obtain ⟨v, vr, rfl, r1, r2⟩ := r
    simp only [toPws] at e
    cases e1 : toPw g d with
    | none => rw [e1] at e; cases e
    | some p1 =>
      rw [e1] at e
      simp only [Option.bind_some] at e
      cases e2 : toPws g ds with
      | none => rw [e2] at e; cases e
      | some p2 =>
        rw [e2] at e
        simp only [Option.map_some, Option.some.injEq] at e
        subst e
        cases rv with
        | cons a b =>
          obtain ⟨as, q1, n1⟩ := rd_reads I hg d r1 a e1
          obtain ⟨bs, q2, n2⟩ := rds_reads I hg ds r2 b e2
          exact ⟨as ++ bs, .cons q1 q2, by simp [n1, n2]⟩
end
theorem RKs.vals {κ : Type} {K : PySem.W.Frag} : ∀ {kvs : List (κ × D)} {vs : List (κ × V)}, RKs K ι H kvs vs → vs.map (·.1) = kvs.map (·.1) ∧ RDs K ι H (kvs.map (·.2)) (vs.map (·.2))
  | [], vs, h => by simp only [RKs] at h; subst h; exact ⟨rfl, RDs.nil⟩
  | (k, d) :: ds, vs, h => by
    simp only [RKs] at h
    obtain ⟨v, r, rfl, a, t⟩ := h
    obtain ⟨h1, h2⟩ := RKs.vals t
    exact ⟨by simp [h1], .cons a h2⟩
theorem reads_keys {h : Heap} : ∀ {ks : List Key} {us : List Value}, Paired (fun k u => keyIs k u = true) ks us → ReadsAll h us (ks.map keyP) []
  | [], _, .nil => .nil
  | k :: ks, u :: us, .cons h0 t => by
    have ih := reads_keys (h := h) t
    have : Reads h u (keyP k) [] := by
      rcases keyIs_shape h0 with ⟨i, t, rfl, rfl⟩ | ⟨x, t, rfl, rfl⟩
      · exact .int i t
      · exact .str x t
    exact .cons (as := []) this ih
theorem pairs_keys {P : Program} {w : World} : ∀ {es : List DictEntry} {kvs : List (Key × Value)}, Pairs (mixKind P w) es kvs → Paired (fun k u => keyIs k u = true) (kvs.map (·.1)) (es.map (·.key))
  | [], _, h => by cases h; exact .nil
  | e :: es, _, h => by
    cases h with
    | cons a b c => exact .cons a (pairs_keys c)
theorem pairs_vals {P : Program} {w : World} : ∀ {es : List DictEntry} {kvs : List (Key × Value)}, Pairs (mixKind P w) es kvs → es.map (·.val) = kvs.map (·.2)
  | [], _, h => by cases h; rfl
  | e :: es, _, h => by
    cases h with
    | cons a b c => simp [pairs_vals c, b]
theorem kv_vals : ∀ {vs : List (Key × V)} {us : List (Key × Value)}, KV vs us → Vals (vs.map (·.2)) (us.map (·.2))
  | [], _, h => by cases h; exact .nil
  | v :: vs, _, h => by
    cases h with
    | cons a b => exact .cons a.2 (kv_vals b)
theorem toPws_len {g : Nat → Option PyData} : ∀ {ds : List D} {ps : List PyData}, toPws g ds = some ps → ps.length = ds.length
  | [], ps, h => by simp only [toPws, Option.some.injEq] at h; subst h; rfl
  | d :: ds, ps, h => by
    simp only [toPws] at h
    cases e1 : toPw g d with
    | none => rw [e1] at h; cases h
    | some p =>
      rw [e1] at h
      simp only [Option.bind_some] at h
      cases e2 : toPws g ds with
      | none => rw [e2] at h; cases h
      | some q =>
        rw [e2] at h
        simp only [Option.map_some, Option.some.injEq] at h
        subst h
        rw [List.length_cons, List.length_cons, toPws_len e2]
/-- sys.modules, if it stands in the written part, is no list -/
def SysK (K : PySem.W.Frag) : Prop := ∀ o, K.lookup sysModules = some o → o.cls ≠ .type "list"
theorem noSys (k : SysK X.K) (rs : RS X.K ι H S) {p : Addr} {vs : List V} (q : SqL X.K H p vs) : p ≠ sysModules := fun z => by
  subst z
  obtain ⟨o, y, h⟩ := rs.sys
  rcases q with (q | ⟨o', q⟩) | ⟨o', _, _, hk, hc, _⟩
  · rw [h] at q; cases q
  · rw [h] at q; cases q
  · exact k o' hk hc
theorem gP_reads (sk : SysK X.K) (I : Inv X pins σ H s) (rs : RS X.K ι H S) : ∀ (k n : Nat) (p : Addr) (pd : PyData), ι[n]? = some p → gP k S n = some pd → RdOk s.heap (.ref p) pd
  | 0, _, _, _, _, e => by simp only [gP] at e; cases e
  | k + 1, n, p, pd, hp, e => by
    have ih := gP_reads sk I rs k
    have seqCase : ∀ xs, seqAt S n = some xs → (toPws (gP k S) xs).map PyData.list = some pd → RdOk s.heap (.ref p) pd := fun xs hx e => by
      cases ep : toPws (gP k S) xs with
      | none => rw [ep] at e; cases e
      | some ps =>
        rw [ep] at e
        simp only [Option.map_some, Option.some.injEq] at e
        subst e
        obtain ⟨p', vs, epp, _, q, r⟩ := rs.seq (v := .ref p) hx (by simp only [RD]; exact ⟨p, rfl, hp⟩)
        cases epp
        obtain ⟨its, rv, ⟨o, m, ho, hc, _, hd⟩, _⟩ := I.list q
        obtain ⟨as, ra, na⟩ := rds_reads I (fun n p pd => ih n p pd) xs r rv ep
        have hne : p ≠ sysModules := noSys sk rs q
        exact ⟨p :: as, .list ho hc hd (by simpa using ra), by simp [Ne.symm hne, na]⟩
    simp only [gP] at e
    split at e
    · rename_i xs hn
      exact seqCase xs (by unfold seqAt; rw [hn]) e
    · rename_i xs hn
      exact seqCase xs (by unfold seqAt; rw [hn]) e
    · rename_i kvs hn
      cases ep : toPws (gP k S) (kvs.map (·.2)) with
      | none => rw [ep] at e; cases e
      | some ps =>
        rw [ep] at e
        simp only [Option.map_some, Option.some.injEq] at e
        subst e
        obtain ⟨p', vs, epp, _, hH, r⟩ := rs.dct (v := .ref p) hn (by simp only [RD]; exact ⟨p, rfl, hp⟩)
        cases epp
        obtain ⟨_, hsys, us, kv, o, es, ep', ho, ex, hd, hk, pr, nd⟩ := dk_of I.hok hH
        obtain ⟨hk1, hk2⟩ := r.vals
        obtain ⟨as, ra, na⟩ := rds_reads I (fun n p pd => ih n p pd) _ hk2 (us := us.map (·.2)) (kv_vals kv) ep
        have hkeys : (kvs.map (·.1)) = us.map (·.1) := by rw [← hk1, kv.keys]
        have hne : p ≠ sysModules := fun z => by rw [z] at hsys; simp at hsys
        have hlp : (kvs.map fun kv => keyP kv.1).length = ps.length := by
          have h1 := toPws_len ep
          simp only [List.length_map] at h1 ⊢
          exact h1.symm
        refine ⟨p :: [] ++ as, .dict (as := []) (bs := as) ho ex.1 hd ?_ ?_, by simp [Ne.symm hne, na]⟩
        · rw [List.map_fst_zip (by rw [hlp]; exact Nat.le_refl _)]
          have := reads_keys (h := s.heap) (pairs_keys pr)
          rw [← hkeys] at this
          rw [List.map_map] at this
          exact this
        · rw [List.map_snd_zip (by rw [hlp]; exact Nat.le_refl _), pairs_vals pr]
          exact ra
    · cases e
theorem toP_reads (sk : SysK X.K) (I : Inv X pins σ H s) (rs : RS X.K ι H S) {d : D} {v : V} {u : Value} {pd : PyData} (r : RD X.K ι H d v) (rv : RelV v u) (e : toP S d = some pd) : RdOk s.heap u pd :=
  rd_reads I (fun n p pd => gP_reads sk I rs LEV n p pd) d r rv e
end

/-! ### comparisons -/
def flatD : D → Option V
  | .non => some .non
  | .bl b => some (.bl b)
  | .int i => some (.int i)
  | .str x => some (.str x)
  | _ => none
/-- == : none where it is not told -/
def eqD1 (x y : D) (S : Sto) : Option Bool := match flatD x, flatD y with
  | some a, some b => if scal a b = true then some (decide (a = b)) else none
  | _, _ => match toP S x, toP S y with
    | some p, some q => if (SeqAt.shaped p && SeqAt.shaped q) = true then some (PyData.eqv p q) else none
    | _, _ => none
/-- where one of the two is empty -/
def eq0 (x y : D) (S : Sto) : Option Bool := match x, y with
  | .tup xs, .tup ys => if (xs.isEmpty || ys.isEmpty) = true then some (xs.isEmpty && ys.isEmpty) else none
  | .ref n, .ref m => match seqAt S n, seqAt S m with
    | some xs, some ys => if (xs.isEmpty || ys.isEmpty) = true then some (xs.isEmpty && ys.isEmpty) else none
    | _, _ => none
  | _, _ => none
def eqD (x y : D) (S : Sto) : Option Bool := match eq0 x y S with
  | some b => some b
  | none => eqD1 x y S
def dEq : DOp := fun x y S => (eqD x y S).map fun b => (.bl b, S)
def dNe : DOp := fun x y S => (eqD x y S).map fun b => (.bl (!b), S)
section
variable {X : Cx}
theorem flat_rd {K : PySem.W.Frag} {ι : List Addr} {H : Hp} {d : D} {v w : V} (h : flatD d = some w) (r : RD K ι H d v) : v = w := by
  cases d <;> simp only [flatD, Option.some.injEq] at h <;> first | (simp only [RD] at r; rw [r, h]) | cases h
/-- two data with their Python values -/
theorem eq_cases {pins : List (Addr × Obj)} {σ : L2.St} {H : Hp} {s : Shared} {ι : List Addr} {S : Sto} {x y : D} {a b : V} {v u : Value} {k : Bool} (sk : SysK X.K) (I : Inv X pins σ H s) (rs : RS X.K ι H S)
    (rx : RD X.K ι H x a) (ry : RD X.K ι H y b) (ra : RelV a v) (rb : RelV b u) (h : eqD1 x y S = some k) :
    (scal a b = true ∧ k = decide (a = b)) ∨ ∃ p q as bs, Reads s.heap v p as ∧ Reads s.heap u q bs ∧ SeqAt.shaped p = true ∧ SeqAt.shaped q = true ∧ k = PyData.eqv p q := by
  unfold eqD1 at h
  split at h
  · rename_i a' b' ea eb
    split at h
    · rename_i hs
      have e1 := flat_rd ea rx
      have e2 := flat_rd eb ry
      subst e1; subst e2
      exact .inl ⟨hs, (Option.some.inj h).symm⟩
    · cases h
  · split at h
    · rename_i p q ep eq
      split at h
      · rename_i hs
        rw [Bool.and_eq_true] at hs
        obtain ⟨as, r1, _⟩ := toP_reads sk I rs rx ra ep
        obtain ⟨bs, r2, _⟩ := toP_reads sk I rs ry rb eq
        exact .inr ⟨p, q, as, bs, r1, r2, hs.1, hs.2, (Option.some.inj h).symm⟩
      · cases h
    · cases h
theorem all_vac {e : Nat → Bool} {a b : Nat} (h : a = 0 ∨ b = 0) : ((List.range (min a b)).all e && a == b) = (decide (a = 0) && decide (b = 0)) := by
  rcases h with rfl | rfl
  · cases b <;> simp
  · cases a <;> simp
theorem emp_of {K : PySem.W.Frag} {ι : List Addr} {H : Hp} {xs : List D} {vs : List V} {its : List Value} (r : RDs K ι H xs vs) (rv : Vals vs its) : xs.isEmpty = decide (its.toArray.size = 0) := by
  rw [← r.isEmpty, List.size_toArray, ← rv.length]
  cases vs <;> simp
theorem eq0_rc {pins : List (Addr × Obj)} {σ : L2.St} {H : Hp} {s : Shared} {ι : List Addr} {S : Sto} {x y : D} {a b : V} {v u : Value} {k : Bool} (hu : X.A.units + 64 < cLine) (I : Inv X pins σ H s) (rs : RS X.K ι H S)
    (rx : RD X.K ι H x a) (ry : RD X.K ι H y b) (ra : RelV a v) (rb : RelV b u) (h : eq0 x y S = some k) : SeqAt.RcAt X.A s v u k ∧ SeqAt.RcNeAt X.A s v u (!k) := by
  have hu' : X.A.units < cLine := by omega
  unfold eq0 at h
  split at h
  · rename_i xs ys
    split at h
    · rename_i he
      cases h
      simp only [RD] at rx ry
      obtain ⟨p, vs, rfl, q, r⟩ := rx
      obtain ⟨p2, us, rfl, q2, r2⟩ := ry
      cases ra; cases rb
      obtain ⟨its, rv, hl, _⟩ := I.tuple q
      obtain ⟨its2, rv2, hl2, _⟩ := I.tuple q2
      rw [emp_of r rv, emp_of r2 rv2] at he ⊢
      have hz : its.toArray.size = 0 ∨ its2.toArray.size = 0 := by simpa using he
      rw [← all_vac (e := fun _ => true) hz]
      refine ⟨SeqAt.RcAt.tuples hl hl2 hu' fun j h1 h2 => ?_, SeqAt.RcNeAt.tuples hl hl2 hu' fun j h1 h2 => ?_⟩ <;> omega
    · cases h
  · rename_i n m
    split at h
    · rename_i xs ys hn hm
      split at h
      · rename_i he
        cases h
        obtain ⟨p, vs, rfl, _, q, r⟩ := rs.seq hn rx
        obtain ⟨p2, us, rfl, _, q2, r2⟩ := rs.seq hm ry
        cases ra; cases rb
        obtain ⟨its, rv, hl, _⟩ := I.list q
        obtain ⟨its2, rv2, hl2, _⟩ := I.list q2
        rw [emp_of r rv, emp_of r2 rv2] at he ⊢
        have hz : its.toArray.size = 0 ∨ its2.toArray.size = 0 := by simpa using he
        by_cases hsz : its.toArray.size = its2.toArray.size
        · have e0 : its.toArray.size = 0 := by omega
          have e1 : its2.toArray.size = 0 := by omega
          have ea : (decide (its.toArray.size = 0) && decide (its2.toArray.size = 0)) = (List.range its.toArray.size).all (fun _ => true) := by rw [e0, e1]; rfl
          rw [ea]
          refine ⟨SeqAt.RcAt.lists hl.isList hl2.isList hsz hu' fun j h1 h2 => ?_, SeqAt.RcNeAt.lists hl.isList hl2.isList hsz hu' fun j h1 h2 => ?_⟩ <;> omega
        · have ea : (decide (its.toArray.size = 0) && decide (its2.toArray.size = 0)) = false := by
            rcases hz with z | z
            · rw [decide_eq_false (p := its2.toArray.size = 0) (by omega), Bool.and_false]
            · rw [decide_eq_false (p := its.toArray.size = 0) (by omega), Bool.false_and]
          rw [ea]
          exact ⟨SeqAt.RcAt.lists_lengths hl.isList hl2.isList (by simpa using hsz) hu', SeqAt.RcNeAt.lists_lengths hl.isList hl2.isList (by simpa using hsz) hu'⟩
      · cases h
    · cases h
  · cases h
theorem o_eq (hu : X.A.units + 64 < cLine) (sk : SysK X.K) : OpR X (compareOp .Eq) (rOp X.K dEq) := by
  intro pins s σ H a b v u Q I ra rb h
  obtain ⟨ι, S, x, y, rs, rx, ry, hh⟩ := h
  unfold dEq at hh
  cases hk : eqD x y S with
  | none => rw [hk] at hh; exact hh.elim
  | some k =>
    rw [hk] at hh
    have q : Q (.bl k) H := PV.ret hh rs (by simp only [RD])
    unfold eqD at hk
    split at hk
    · rename_i k' h0
      cases hk
      exact (eq0_rc hu I rs rx ry ra rb h0).1 _ _ _ _ ⟨.bl _, H, I, rfl, q⟩
    rcases eq_cases sk I rs rx ry ra rb hk with ⟨hs, e⟩ | ⟨p, p', as, bs, r1, r2, s1, s2, e⟩
    · exact op_eq pins s σ H a b v u Q I ra rb ⟨hs, by rw [← e]; exact q⟩
    · exact SeqAt.compareEq_shaped r1 r2 s1 s2 hu ⟨.bl k, H, I, by rw [e]; rfl, q⟩
theorem o_ne (hu : X.A.units + 64 < cLine) (sk : SysK X.K) : OpR X (compareOp .NotEq) (rOp X.K dNe) := by
  intro pins s σ H a b v u Q I ra rb h
  obtain ⟨ι, S, x, y, rs, rx, ry, hh⟩ := h
  unfold dNe at hh
  cases hk : eqD x y S with
  | none => rw [hk] at hh; exact hh.elim
  | some k =>
    rw [hk] at hh
    have q : Q (.bl (!k)) H := PV.ret hh rs (by simp only [RD])
    unfold eqD at hk
    split at hk
    · rename_i k' h0
      cases hk
      exact (eq0_rc hu I rs rx ry ra rb h0).2 _ _ _ _ ⟨.bl _, H, I, rfl, q⟩
    rcases eq_cases sk I rs rx ry ra rb hk with ⟨hs, e⟩ | ⟨p, p', as, bs, r1, r2, s1, s2, e⟩
    · exact op_ne pins s σ H a b v u Q I ra rb ⟨hs, by rw [← e]; exact q⟩
    · exact SeqAt.compareNe_shaped r1 r2 s1 s2 hu ⟨.bl (!k), H, I, by rw [e]; rfl, q⟩
end
def strLt (a b : Str) : Bool := decide (a.cps.toList < b.cps.toList)
def dCmp (f : Int → Int → Bool) (g : Str → Str → Bool) : DOp := fun x y S => match x, y with
  | .int i, .int j => some (.bl (f i j), S)
  | .str a, .str b => some (.bl (g a b), S)
  | _, _ => none
def dLt : DOp := dCmp (fun i j => decide (i < j)) fun a b => strLt a b
def dLe : DOp := dCmp (fun i j => decide (i ≤ j)) fun a b => !strLt b a
def dGt : DOp := dCmp (fun i j => decide (j < i)) fun a b => strLt b a
def dGe : DOp := dCmp (fun i j => decide (j ≤ i)) fun a b => !strLt a b
section
variable {X : Cx}
theorem o_cmp {f : Value → Value → Sem Value} {g : Int → Int → Bool} {g' : Str → Str → Bool} (h1 : OpR X f (rI0 fun i j => .bl (g i j))) (h2 : OpR X f (fun x y H Q => ∃ i j, x = .str i ∧ y = .str j ∧ Q (.bl (g' i j)) H)) : OpR X f (rOp X.K (dCmp g g')) := by
  refine OpR.imp (OpR.or h1 h2) fun a b H Q hh => ?_
  obtain ⟨ι, S, x, y, rs, rx, ry, hh⟩ := hh
  unfold dCmp at hh
  split at hh
  · rename_i i j
    simp only [RD] at rx ry
    exact .inl ⟨i, j, rx, ry, PV.ret hh rs (by simp only [RD])⟩
  · rename_i i j
    simp only [RD] at rx ry
    exact .inr ⟨i, j, rx, ry, PV.ret hh rs (by simp only [RD])⟩
  · exact hh.elim
theorem o_lt : OpR X (compareOp .Lt) (rOp X.K dLt) := o_cmp op_lt op_lt_str
theorem o_le : OpR X (compareOp .LtE) (rOp X.K dLe) := o_cmp op_le op_le_str
theorem o_gt : OpR X (compareOp .Gt) (rOp X.K dGt) := o_cmp op_gt op_gt_str
theorem o_ge : OpR X (compareOp .GtE) (rOp X.K dGe) := o_cmp op_ge op_ge_str
end
/-- is None, is not None -/
def isNon : D → Option Bool
  | .non => some true
  | .raw _ => none
  | _ => some false
def dIs : DOp := fun x y S => match y with
  | .non => (isNon x).map fun b => (.bl b, S)
  | _ => none
def dIsNot : DOp := fun x y S => match y with
  | .non => (isNon x).map fun b => (.bl (!b), S)
  | _ => none
section
variable {X : Cx}
theorem isNon_ok {K : PySem.W.Frag} {ι : List Addr} {H : Hp} {d : D} {v : V} {k : Bool} (h : isNon d = some k) (r : RD K ι H d v) : decide (v = .non) = k := by
  cases d with
  | non => simp only [RD] at r; simp only [isNon, Option.some.injEq] at h; subst r; subst h; rfl
  | raw w => simp only [isNon] at h; cases h
  | tup xs => simp only [RD] at r; obtain ⟨p, vs, rfl, _⟩ := r; simp only [isNon, Option.some.injEq] at h; subst h; rfl
  | ref n => simp only [RD] at r; obtain ⟨p, rfl, _⟩ := r; simp only [isNon, Option.some.injEq] at h; subst h; rfl
  | _ => simp only [RD] at r; simp only [isNon, Option.some.injEq] at h; subst r; subst h; rfl
theorem o_is : OpR X (compareOp .Is) (rOp X.K dIs) := by
  refine OpR.imp op_isN fun a b H Q hh => ?_
  obtain ⟨ι, S, x, y, rs, rx, ry, hh⟩ := hh
  unfold dIs at hh
  split at hh
  · simp only [RD] at ry
    cases hk : isNon x with
    | none => rw [hk] at hh; exact hh.elim
    | some k => rw [hk] at hh; exact ⟨ry, by rw [isNon_ok hk rx]; exact PV.ret hh rs (by simp only [RD])⟩
  · exact hh.elim
theorem o_isnot : OpR X (compareOp .IsNot) (rOp X.K dIsNot) := by
  refine OpR.imp op_notN fun a b H Q hh => ?_
  obtain ⟨ι, S, x, y, rs, rx, ry, hh⟩ := hh
  unfold dIsNot at hh
  split at hh
  · simp only [RD] at ry
    cases hk : isNon x with
    | none => rw [hk] at hh; exact hh.elim
    | some k => rw [hk] at hh; exact ⟨ry, by rw [isNon_ok hk rx]; exact PV.ret hh rs (by simp only [RD])⟩
  · exact hh.elim
end

/-! ### tables -/
section
variable {κ : Type} [DecidableEq κ]
def valD (kvs : List (κ × D)) (k : κ) : Option D := (kvs.find? fun kv => decide (kv.1 = k)).map (·.2)
def putD (kvs : List (κ × D)) (k : κ) (v : D) : List (κ × D) :=
  if (kvs.any fun kv => decide (kv.1 = k)) = true then kvs.map (fun kv => if kv.1 = k then (kv.1, v) else kv) else kvs ++ [(k, v)]
variable {K : PySem.W.Frag} {ι : List Addr} {H : Hp}
theorem RKs.val : ∀ {kvs : List (κ × D)} {vs : List (κ × V)} (k : κ), RKs K ι H kvs vs → match valD kvs k, valV vs k with
    | some d, some v => RD K ι H d v
    | none, none => True
    | _, _ => False
  | [], vs, k, h => by simp only [RKs] at h; subst h; simp [valD, valV]
  | (j, d) :: ds, vs, k, h => by
    simp only [RKs] at h
    obtain ⟨v, r, rfl, a, t⟩ := h
    by_cases e : j = k
    · simp [valD, valV, List.find?_cons, e, a]
    · have ih := RKs.val k t
      have e1 : valD ((j, d) :: ds) k = valD ds k := by simp [valD, List.find?_cons, e]
      have e2 : valV ((j, v) :: r) k = valV r k := by simp [valV, List.find?_cons, e]
      rw [e1, e2]
      exact ih
theorem RKs.any (p : κ → Bool) : ∀ {kvs : List (κ × D)} {vs : List (κ × V)}, RKs K ι H kvs vs → (vs.any fun kv => p kv.1) = kvs.any fun kv => p kv.1
  | [], vs, h => by simp only [RKs] at h; subst h; rfl
  | (j, d) :: ds, vs, h => by
    simp only [RKs] at h
    obtain ⟨v, r, rfl, a, t⟩ := h
    simp only [List.any_cons, RKs.any p t]
theorem RKs.repl (k : κ) {d : D} {v : V} (q : RD K ι H d v) : ∀ {kvs : List (κ × D)} {vs : List (κ × V)}, RKs K ι H kvs vs →
    RKs K ι H (kvs.map fun kv => if kv.1 = k then (kv.1, d) else kv) (vs.map fun kv => if kv.1 = k then (kv.1, v) else kv)
  | [], vs, h => by simp only [RKs] at h; subst h; simp only [List.map_nil, RKs]
  | (j, d0) :: ds, vs, h => by
    simp only [RKs] at h
    obtain ⟨v0, r, rfl, a, t⟩ := h
    simp only [List.map_cons]
    by_cases e : j = k
    · simp only [e, if_true, RKs]
      exact ⟨v, _, rfl, q, RKs.repl k q t⟩
    · simp only [e, if_false, RKs]
      exact ⟨v0, _, rfl, a, RKs.repl k q t⟩
theorem RKs.append {kvs es : List (κ × D)} {vs us : List (κ × V)} (h : RKs K ι H kvs vs) (q : RKs K ι H es us) : RKs K ι H (kvs ++ es) (vs ++ us) := by
  induction kvs generalizing vs with
  | nil => simp only [RKs] at h; subst h; exact q
  | cons kv kvs ih =>
    obtain ⟨k, d⟩ := kv
    simp only [RKs] at h
    obtain ⟨v, r, rfl, a, t⟩ := h
    simp only [List.cons_append, RKs]
    exact ⟨v, _, rfl, a, ih t⟩
theorem RKs.put (k : κ) {d : D} {v : V} (q : RD K ι H d v) {kvs : List (κ × D)} {vs : List (κ × V)} (h : RKs K ι H kvs vs) : RKs K ι H (putD kvs k d) (putK vs k v) := by
  unfold putD putK
  rw [h.any fun j => decide (j = k)]
  split
  · exact h.repl k q
  · exact h.append (by simp only [RKs]; exact ⟨v, [], rfl, q, rfl⟩)
end
def keyD : D → Option Key
  | .int i => some (.inl i)
  | .str x => some (.inr x)
  | _ => none
theorem keyD_rd {K : PySem.W.Frag} {ι : List Addr} {H : Hp} {d : D} {v : V} {k : Key} (h : keyD d = some k) (r : RD K ι H d v) : v = kV k := by
  cases d <;> simp only [keyD, Option.some.injEq] at h <;> first | (simp only [RD] at r; subst h; exact r) | cases h

/-! ### subscripts -/
def dIx : DOp := fun x y S => match x with
  | .tup xs => match y with
    | .int i => (atI xs i).map fun d => (d, S)
    | _ => none
  | .str z => match y with
    | .int i => if z.length ≤ sizeLine then (atI z.cps.toList i).map fun c => (.str ⟨#[c]⟩, S) else none
    | _ => none
  | .ref n => match S[n]? with
    | some (.dct kvs) => (keyD y).bind fun k => (valD kvs k).map fun d => (d, S)
    | _ => match y with
      | .int i => (seqAt S n).bind fun xs => (atI xs i).map fun d => (d, S)
      | _ => none
  | _ => none
section
variable {X : Cx} {W : WX} {a b : Expr} {ma mb : EM} {pos : Pos}
theorem RDs.atI {K : PySem.W.Frag} {ι : List Addr} {H : Hp} {xs : List D} {vs : List V} {i : Int} {d : D} (r : RDs K ι H xs vs) (h : atI xs i = some d) : ∃ v, L2.atI vs i = some v ∧ RD K ι H d v := by
  unfold L2.atI at h ⊢
  rw [r.length]
  cases e : ixN xs.length i with
  | none => rw [e] at h; cases h
  | some j =>
    rw [e] at h
    exact r.get h
theorem ix_seq' : IxR X (fun a b H Q => rOp X.K (fun x y S => match x with
    | .ref n => match S[n]? with
      | some (.dct _) => none
      | _ => dIx x y S
    | _ => dIx x y S) a b H Q) := by
  intro value slice pins s σ H a b v u Q I ra rb h hs
  refine ix_seq value slice pins s σ H a b v u Q I ra rb ?_ hs
  obtain ⟨ι, S, x, y, rs, rx, ry, hh⟩ := h
  cases x with
  | tup xs =>
    simp only [dIx] at hh
    split at hh
    · rename_i i
      cases e : atI xs i with
      | none => rw [e] at hh; exact hh.elim
      | some d =>
        rw [e] at hh
        simp only [RD] at rx ry
        obtain ⟨p, vs, rfl, q, r⟩ := rx
        obtain ⟨w, ew, rw'⟩ := r.atI e
        exact .inr (.inl ⟨p, vs, i, w, rfl, ry, q, ew, PV.ret hh rs rw'⟩)
    · exact hh.elim
  | str z =>
    simp only [dIx] at hh
    split at hh
    · rename_i i
      split at hh
      · rename_i hz
        cases e : atI z.cps.toList i with
        | none => rw [e] at hh; exact hh.elim
        | some c =>
          rw [e] at hh
          simp only [RD] at rx ry
          exact .inr (.inr ⟨z, i, c, rx, ry, hz, e, PV.ret hh rs (by simp only [RD])⟩)
      · exact hh.elim
    · exact hh.elim
  | ref n =>
    simp only [dIx] at hh
    split at hh
    · exact hh.elim
    · rename_i hnd
      split at hh
      · rename_i kvs ek
        exact absurd ek (hnd kvs)
      · split at hh
        · rename_i i
          cases e : seqAt S n with
          | none => rw [e] at hh; exact hh.elim
          | some xs =>
            rw [e] at hh
            simp only [Option.bind_some] at hh
            cases e2 : atI xs i with
            | none => rw [e2] at hh; exact hh.elim
            | some d =>
              rw [e2] at hh
              obtain ⟨p, vs, rfl, _, q, r⟩ := rs.seq e rx
              simp only [RD] at ry
              obtain ⟨w, ew, rw'⟩ := r.atI e2
              exact .inl ⟨p, vs, i, w, rfl, ry, q, ew, PV.ret hh rs rw'⟩
        · exact hh.elim
  | _ => exact hh.elim
theorem se_ix (hu : X.A.units + 1 < cLine) (ha : SE X W a ma) (hb : SE X W b mb) (hs : PlainIx b) : SE X W (.Subscript a b pos) (mBin dIx ma mb) := by
  refine PE.imp (PE.or (pe_ix ix_seq' ha hb hs) (pe_dget hu ha hb hs)) fun σ H Q h => ?_
  obtain ⟨ι, ρ, S, re, rs, h⟩ := h
  -- which one it is hangs on the values
  by_cases isD : ∃ x S1 y S2 n kvs, ma ρ S = .ok x S1 ∧ mb ρ S1 = .ok y S2 ∧ x = .ref n ∧ S2[n]? = some (.dct kvs)
  · refine .inr ?_
    obtain ⟨x, S1, y, S2, n, kvs, e1, e2, e3, e4⟩ := isD
    subst e3
    simp only [mBin, e1, e2, bind_ok] at h
    refine ⟨ι, ρ, S, re, rs, ?_⟩
    rw [e1]
    refine fun ι1 v H1 x1 rs1 r1 => ⟨ι1, ρ, S1, re.mono x1, rs1, ?_⟩
    rw [e2]
    refine fun ι2 u H2 x2 rs2 r2 => ?_
    simp only [dIx, e4] at h
    cases ek : keyD y with
    | none => rw [ek] at h; exact h.elim
    | some k =>
      rw [ek] at h
      simp only [Option.bind_some] at h
      cases ev : valD kvs k with
      | none => rw [ev] at h; exact h.elim
      | some d =>
        rw [ev] at h
        obtain ⟨p, vs, rfl, _, hH, r⟩ := rs2.dct e4 (RD.mono x2 r1)
        have eu := keyD_rd ek r2
        subst eu
        have q := r.val k
        rw [ev] at q
        cases ew : valV vs k with
        | none => rw [ew] at q; exact q.elim
        | some w =>
          rw [ew] at q
          exact ⟨p, w, rfl, by rw [← ew]; exact DGet.k hH, h ι2 w H2 (x1.trans x2) rs2 q⟩
  · refine .inl ?_
    refine bin_go ⟨ι, ρ, S, re, rs, ?_⟩
    simp only [mBin] at h ⊢
    cases e1 : ma ρ S with
    | stk => rw [e1] at h; exact h
    | ex e S1 => rw [e1] at h; exact h
    | ok x S1 =>
      rw [e1] at h
      simp only [bind_ok] at h ⊢
      cases e2 : mb ρ S1 with
      | stk => rw [e2] at h; exact h
      | ex e S1 => rw [e2] at h; exact h
      | ok y S2 =>
        rw [e2] at h
        simp only [bind_ok] at h ⊢
        cases x with
        | ref n =>
          dsimp only
          split
          · rename_i kvs ek
            exact absurd ⟨_, _, _, _, n, kvs, e1, e2, rfl, ek⟩ isD
          · exact h
        | _ => exact h
end

/-! ### slices -/
def cutD (xs : List D) (lo hi : Option Int) : List D := (xs.drop (HT.sIx xs.length 0 lo)).take (HT.sIx xs.length xs.length hi - HT.sIx xs.length 0 lo)
abbrev OM := Ev → Sto → R (Option Int)
abbrev rO : Rel (Option Int) (Option Int) := fun _ _ a b => b = a
abbrev SO (X : Cx) (W : WX) (e : Option Expr) (m : OM) : Prop := L2.PO X e (tG X.K rO W m)
def oNone : OM := fun _ S => .ok none S
def oSome (m : EM) : OM := fun ρ S => (m ρ S).bind fun d S1 => match d with
  | .int i => .ok (some i) S1
  | _ => .stk
def dSl (x : D) (lo hi : Option Int) (S : Sto) : Option (D × Sto) := match x with
  | .tup xs => some (.tup (cutD xs lo hi), S)
  | .str z => if z.length ≤ sizeLine then some (.str (cutS z lo hi), S) else none
  | .ref n => (seqAt S n).map fun xs => (.ref S.length, S ++ [.lst (cutD xs lo hi)])
  | _ => none
def mSl (m : EM) (l u : OM) : EM := fun ρ S => (m ρ S).bind fun x S1 => (l ρ S1).bind fun lo S2 => (u ρ S2).bind fun hi S3 => ofO (dSl x lo hi S3)
section
variable {X : Cx} {W : WX} {e : Expr} {m : EM} {lo hi : Option Expr} {l u : OM} {pos p2 : Pos}
theorem so_none : SO X W none oNone := ⟨fun pins s σ H Q I h => po_none.run pins s σ H Q I (by obtain ⟨ι, ρ, S, re, rs, h⟩ := h; exact h.ret rs rfl)⟩
theorem so_some (he : SE X W e m) : SO X W (some e) (oSome m) := ⟨fun pins s σ H Q I h => (po_some he).run pins s σ H Q I (by
  obtain ⟨ι, ρ, S, re, rs, h⟩ := h
  refine ⟨ι, ρ, S, re, rs, PR.imp (fun v H1 hh => ?_) (PR.bind (rel := rD X.K) h)⟩
  obtain ⟨ι1, d, S1, x1, rs1, r1, h1⟩ := hh
  split at h1
  · rename_i i
    simp only [RD] at r1
    exact ⟨i, r1, h1.ret rs1 rfl⟩
  · exact h1.elim)⟩
theorem RDs.cut {K : PySem.W.Frag} {ι : List Addr} {H : Hp} {xs : List D} {vs : List V} (r : RDs K ι H xs vs) (lo hi : Option Int) : RDs K ι H (cutD xs lo hi) (cutV vs lo hi) := by
  unfold cutD cutV
  rw [r.length]
  exact (r.drop _).take _
theorem cutD_whole {xs : List D} {lo hi : Option Int} (h : HT.sIx xs.length 0 lo = 0 ∧ HT.sIx xs.length xs.length hi = xs.length) : cutD xs lo hi = xs := by
  unfold cutD
  rw [h.1, h.2]
  simp
theorem se_slice (he : SE X W e m) (hl : SO X W lo l) (hh : SO X W hi u) : SE X W (.Subscript e (.Slice lo hi none p2) pos) (mSl m l u) := by
  refine PE.imp (pe_slice (SlR.or sl_tupA (SlR.or sl_str sl_list)) he hl hh) fun σ H Q h => ?_
  obtain ⟨ι, ρ, S, re, rs, h⟩ := h
  refine ⟨ι, ρ, S, re, rs, PR.imp (fun v H1 hh => ?_) (PR.bind (rel := rD X.K) h)⟩
  obtain ⟨ι1, d, S1, x1, rs1, r1, h1⟩ := hh
  refine ⟨ι1, ρ, S1, re.mono x1, rs1, PR.imp (fun o1 H2 hh => ?_) (PR.bind (rel := rO) h1)⟩
  obtain ⟨ι2, o1', S2, x2, rs2, r2, h2⟩ := hh
  cases r2
  refine ⟨ι2, ρ, S2, (re.mono x1).mono x2, rs2, PR.imp (fun o2 H3 hh => ?_) (PR.bind (rel := rO) h2)⟩
  obtain ⟨ι3, o2', S3, x3, rs3, r3, h3⟩ := hh
  cases r3
  have rd : RD X.K ι3 H3 d v := RD.mono (x2.trans x3) r1
  have h4 := PV.of h3
  unfold dSl at h4
  split at h4
  · rename_i xs
    simp only [RD] at rd
    obtain ⟨p, vs, rfl, q, r⟩ := rd
    refine .inl ⟨p, vs, rfl, q, fun w => ?_, fun _ => new_tup rs3 (r.cut _ _) h4⟩
    rw [r.length] at w
    rw [cutD_whole w] at h4
    exact PV.ret h4 rs3 (by simp only [RD]; exact ⟨p, vs, rfl, q, r⟩)
  · rename_i z
    split at h4
    · rename_i hz
      simp only [RD] at rd
      exact .inr (.inl ⟨z, rd, hz, PV.ret h4 rs3 (by simp only [RD])⟩)
    · exact h4.elim
  · rename_i n
    cases en : seqAt S3 n with
    | none => rw [en] at h4; exact h4.elim
    | some xs =>
      rw [en] at h4
      obtain ⟨p, vs, rfl, _, q, r⟩ := rs3.seq en rd
      exact .inr (.inr ⟨p, vs, rfl, q, new_lst rs3 (r.cut _ _) h4⟩)
  · exact h4.elim
end

/-! ### stores into lists and dicts -/
def dSet (x i v : D) (S : Sto) : Option Sto := match x with
  | .ref n => match S[n]? with
    | some (.lst xs) => match i with
      | .int k => (ixN xs.length k).map fun j => S.set n (.lst (xs.set j v))
      | _ => none
    | some (.dct kvs) => (keyD i).bind fun k => if kvs.length < sizeLine then some (S.set n (.dct (putD kvs k v))) else none
    | _ => none
  | _ => none
/-- o[i] = e: e first -/
def sSub (mo mi me : EM) : SM := fun ρ S => (me ρ S).bindS ρ fun v S1 => (mo ρ S1).bindS ρ fun o S2 => (mi ρ S2).bindS ρ fun i S3 => match dSet o i v S3 with
  | some S4 => .nx ρ S4
  | none => .stk
section
variable {X : Cx} {W : WX} {o i e : Expr} {mo mi me : EM} {pos tpos : Pos}
theorem PSet.or {t t' : TSet} (h : PSet X t) (h' : PSet X t') : PSet X (fun o i v H Q => t o i v H Q ∨ t' o i v H Q) :=
  fun pins s σ H o i v ov iv u Q I r1 r2 r3 w => w.elim (h pins s σ H o i v ov iv u Q I r1 r2 r3) (h' pins s σ H o i v ov iv u Q I r1 r2 r3)
theorem ss_sub (hu : X.A.units + 1 < cLine) (ho : SE X W o mo) (hi : SE X W i mi) (he : SE X W e me)
    (ha : ∀ v, assign (.Subscript o i tpos) X.env v = (do
      let ov ← holding [v] (eval o X.env)
      let iv ← holding [v, ov] (eval i X.env)
      standAt tpos
      holding [v, ov, iv] (setItem ov iv v)
      release [v, ov, iv] []) := by intro _; rfl)
    (hs : swapsWithSole [.Subscript o i tpos] e pos.line X.env = pure false := by rfl) (hw : swappedStores [.Subscript o i tpos] e X.env = pure none := by rfl)
    (h1 : (assignEach [.Subscript o i tpos] X.env).map (·.2) = [assign (.Subscript o i tpos) X.env] := by rfl) : SS X W (.Assign [.Subscript o i tpos] e pos) (sSub mo mi me) := by
  refine PS.imp (ps_asg he (pg_sub ho hi (PSet.or set_list (set_dict hu)) ha) hs hw h1) fun D σ H h => ?_
  obtain ⟨ι, ρ, S, re, rs, h⟩ := h
  refine ⟨ι, ρ, S, re, rs, PR.imp (fun v H1 hh => ?_) (PR.bindS (rel := rD X.K) re h)⟩
  obtain ⟨ι1, d1, S1, x1, rs1, r1, h1⟩ := hh
  refine ⟨ι1, ρ, S1, re.mono x1, rs1, PR.imp (fun ov H2 hh => ?_) (PR.bindS (rel := rD X.K) (re.mono x1) h1)⟩
  obtain ⟨ι2, d2, S2, x2, rs2, r2, h2⟩ := hh
  refine ⟨ι2, ρ, S2, (re.mono x1).mono x2, rs2, PR.imp (fun iv H3 hh => ?_) (PR.bindS (rel := rD X.K) ((re.mono x1).mono x2) h2)⟩
  obtain ⟨ι3, d3, S3, x3, rs3, r3, h3⟩ := hh
  have re3 := ((re.mono x1).mono x2).mono x3
  have rv := RD.mono (x2.trans x3) r1
  have ro := RD.mono x3 r2
  cases hd : dSet d2 d3 d1 S3 with
  | none => simp only [hd] at h3; exact h3.elim
  | some S4 =>
    simp only [hd] at h3
    unfold dSet at hd
    split at hd
    · rename_i n
      split at hd
      · rename_i xs hn
        split at hd
        · rename_i k
          cases ej : ixN xs.length k with
          | none => rw [ej] at hd; cases hd
          | some j =>
            rw [ej] at hd
            simp only [Option.map_some, Option.some.injEq] at hd
            subst hd
            obtain ⟨p, vs, rfl, hp, hH, r⟩ := rs3.lst hn ro
            simp only [rD, RD] at r3
            have xp : Ext X.K ι3 H3 ι3 (upd H3 p (.lst (vs.set j v))) := .put hH (fun _ z => by cases z) (fun _ _ z => by cases z) trivial
            refine .inl ⟨p, vs, k, j, rfl, r3, hH, by rw [r.length]; exact ej, h3 ι3 σ _ xp ?_ (re3.mono xp)⟩
            exact rs3.put hn hp rfl rfl ⟨vs.set j v, upd_same, RDs.mono xp (r.set j rv)⟩
        · cases hd
      · rename_i kvs hn
        cases ek : keyD d3 with
        | none => rw [ek] at hd; cases hd
        | some k =>
          rw [ek] at hd
          simp only [Option.bind_some] at hd
          split at hd
          · rename_i hz
            simp only [Option.some.injEq] at hd
            subst hd
            obtain ⟨p, vs, rfl, hp, hH, r⟩ := rs3.dct hn ro
            have ei := keyD_rd ek r3
            subst ei
            have xp : Ext X.K ι3 H3 ι3 (upd H3 p (.dK (putK vs k v))) := .put hH (fun _ z => by cases z) (fun _ _ z => by cases z) trivial
            refine .inr ⟨p, _, rfl, DPut.k hH (by rw [r.length]; exact hz), h3 ι3 σ _ xp ?_ (re3.mono xp)⟩
            exact rs3.put hn hp rfl rfl ⟨putK vs k v, upd_same, RKs.mono xp (r.put k rv)⟩
          · cases hd
      · cases hd
    · cases hd
end
end DL

/-! the D-layer: defs and their calls -/
namespace DL
open PySem L2

/-- room for k calls, and no object is being shown -/
structure GR (k : Nat) (A : Around) : Prop where
  room : Room k A
  free : A.guards = some []
theorem GR.mono {j k : Nat} {A : Around} (r : GR k A) (h : j ≤ k) : GR j A := ⟨r.room.mono h, r.free⟩
theorem GR.deeper {k : Nat} {A : Around} (r : GR (k + 1) A) (env : Env) : GR k (A.deeper env) := ⟨r.room.deeper env, r.free⟩
theorem GR.u64 {k : Nat} {A : Around} (r : GR k A) : A.units + 64 < cLine := r.room.units
theorem GR.u1 {k : Nat} {A : Around} (r : GR k A) : A.units + 1 < cLine := by have := r.room.un; omega
theorem GR.u100 {k : Nat} {A : Around} (r : GR k A) : A.units + 100 < cLine := by have := r.room.un; omega

/-- what a def promises where nothing is being shown -/
structure FnG (P : Program) (w : World) (K : PySem.W.Frag) (mg : Str → Option Value) (base : Heap) (k : Nat) (f : Addr) (fd : FuncData) (ps : List Str) (sp : Sp) : Prop where
  len : ∀ vs H Q E, sp vs H Q E → vs.length = ps.length
  go : ∀ (A : Around) (around : List Env) (st : Shared) (H : Hp) (given : Args) (us : List Value) (vs : List V) (Q : VK) (E : XK), GR k A → Env0 P w K mg base A around st H →
    BindsTo st fd given (ps.zip us) → Vals vs us → sp vs H Q E → codeAny (model P w) A (.call (.ref f) given) (CR (L2.CX P w) around P w H st Q E) st
section
variable {P : Program} {w : World} {K : PySem.W.Frag} {mg : Str → Option Value} {base : Heap} {k : Nat} {f : Addr} {fd : FuncData} {ps N : List Str} {sp sp' : Sp}
theorem FnG.mono {j : Nat} (F : FnG P w K mg base j f fd ps sp) (h : j ≤ k) : FnG P w K mg base k f fd ps sp :=
  ⟨F.len, fun A o st H g us vs Q E gr => F.go A o st H g us vs Q E (gr.mono h)⟩
theorem FnG.imp (F : FnG P w K mg base k f fd ps sp) (h : ∀ vs H Q E, sp' vs H Q E → sp vs H Q E) : FnG P w K mg base k f fd ps sp' :=
  ⟨fun vs H Q E q => F.len vs H Q E (h _ _ _ _ q), fun A o st H g us vs Q E gr e0 b r q => F.go A o st H g us vs Q E gr e0 b r (h _ _ _ _ q)⟩
theorem FnG.of {x qual : Str} {st : Stmt} (F : Fun K x qual st f fd) (S : FnScope N ps (defScope st)) (len : ∀ vs H Q E, sp vs H Q E → vs.length = ps.length)
    (body : ∀ (cdv : Value) (A : Around) (around : List Env) (s : Shared) (H : Hp) (vs : List V) (Q : VK) (E : XK), GR k (A.deeper (PyProof.Rows.envOfC qual (defScope st) s.heap.objs.size f cdv)) → sp vs H Q E →
      ∃ t, PSs (cxOf (L2.CX P w) P w K mg base N qual (defScope st) f cdv A around s H E) (defBody st) t ∧ t { nx := fun _ H' => Q .non H', rt := Q } (L2.start N vs) H) :
    FnG P w K mg base (k + 1) f fd ps sp := by
  obtain ⟨oc, od, kV, doc, pm, an, cdv, ct, osl, hfd, look, code⟩ := F.ex
  subst hfd
  constructor
  · exact len
  intro A around s H given us vs Q E gr e0 binds rel hsp
  have before : ∀ b o, base.get? b = some o → s.heap.get? b = some o := fun b o e => (e0.bs b o e).1
  have KX := e0.mod.kin.keeps before
  have kinds : ∀ y ∈ ps.zip us, (defScope st).names.lookup y.1 = some .local ∨
      ((defScope st).names.lookup y.1 = some .cell ∧ ((cellsFrom (s.heap.objs.size + 1) (defScope st).names []).lookup y.1).isSome = true) := by
    rintro ⟨n, v⟩ hm
    cases S.par n (List.of_mem_zip hm).1 with
    | inl z => exact .inl z
    | inr z => exact .inr ⟨z, PySem.W.cellsFrom_some _ _ _ (.inl z)⟩
  apply codeAny_call_function gr.room.depth (KX _ _ look) rfl S.co S.gen rfl (PySem.W.codeRec_of KX code)
  apply binds
  apply wpAny_newFunctionEnv_cells S.kind kinds
  intro env he s1 ic
  subst he
  refine ⟨(e0.mod.nolimit.keeps before).keeps ic.toInCall.keep, codeAny_func ?_⟩
  obtain ⟨t, ht, hq⟩ := body cdv A around s H vs Q E (gr.deeper _) hsp
  have inv := inv_start (CX := L2.CX P w) (E := E) S gr.room.hd e0 (len _ _ _ _ hsp) rel ic
  have ends : ∀ {σ' : L2.St} {H' : Hp} {v : V} {u : Value} {s' : Shared}, L2.Inv (cxOf (L2.CX P w) P w K mg base N qual (defScope st) f cdv A around s H E) [] σ' H' s' → RelV v u → Q v H' →
      CE around P w H s Q u s' := fun j rv q => ⟨_, _, j.os, j.bare, j.base, j.hok, rv, q⟩
  refine wpAny_mono (ht.run [] s1 _ H _ inv hq) ?_ (fun _ _ z => z)
  intro fl s' hs
  cases fl with
  | ret u => obtain ⟨v, σ', H', j, rv, q⟩ := hs; exact ends j rv q
  | next => obtain ⟨σ', H', j, q⟩ := hs; exact ends (v := .non) (u := .none) j rfl q
  | brk => obtain ⟨_, _, _, q⟩ := hs; exact q.elim
  | cont => obtain ⟨_, _, _, q⟩ := hs; exact q.elim
end

/-! ### promises on data -/
/-- n arguments, and what F says -/
def spG (K : PySem.W.Frag) (n : Nat) (F : List D → Sto → R D) : Sp := fun vs H Q E => ∃ ι S ds, RS K ι H S ∧ RDs K ι H ds vs ∧ ds.length = n ∧ PR K (rD K) (fun cls dd _ H' => E cls dd H') [] ι H Q (F ds S)
theorem spG.len {K : PySem.W.Frag} {n : Nat} {F : List D → Sto → R D} {vs : List V} {H : Hp} {Q : VK} {E : XK} (h : spG K n F vs H Q E) : vs.length = n := by
  obtain ⟨ι, S, ds, rs, r, e, _⟩ := h
  rw [r.length, e]
def startE (n : Nat) (ds : List D) : Ev := ds.map some ++ List.replicate (n - ds.length) none
theorem startE_re {K : PySem.W.Frag} {ι : List Addr} {H : Hp} {ds : List D} {vs : List V} (N : List Str) (r : RDs K ι H ds vs) : RE K ι H (startE N.length ds) (L2.start N vs) := by
  unfold startE L2.start
  refine ⟨by simp [r.length], fun i d e => ?_⟩
  by_cases hi : i < ds.length
  · rw [List.getElem?_append_left (by simpa using hi), List.getElem?_map] at e
    cases q : ds[i]? with
    | none => rw [q] at e; cases e
    | some d' =>
      rw [q] at e
      cases e
      obtain ⟨v, a, b⟩ := r.get q
      exact ⟨v, by rw [List.getElem?_append_left (by simpa [r.length] using hi), List.getElem?_map, a]; rfl, b⟩
  · rw [List.getElem?_append_right (by simpa using hi), List.getElem?_replicate] at e
    split at e <;> cases e
def retOf : SR → R D
  | .rt d S => .ok d S
  | .nx _ S => .ok .non S
  | .ex e _ S => .ex e S
  | _ => .stk
/-- a def's body as a function -/
def runB (n : Nat) (m : SM) : List D → Sto → R D := fun ds S => retOf (m (startE n ds) S)
abbrev WD (E : XK) : WX := fun cls d _ H => E cls d H
section
variable {P : Program} {w : World} {K : PySem.W.Frag} {mg : Str → Option Value} {base : Heap} {k : Nat} {f : Addr} {fd : FuncData} {ps N : List Str}
/-- THE RULE: a def by the derivation of its body -/
theorem fn_ok {x qual : Str} {st : Stmt} {m : SM} (F : Fun K x qual st f fd) (S : FnScope N ps (defScope st))
    (body : ∀ (cdv : Value) (A : Around) (around : List Env) (s : Shared) (H : Hp) (E : XK), GR k (A.deeper (PyProof.Rows.envOfC qual (defScope st) s.heap.objs.size f cdv)) →
      SSs (cxOf (L2.CX P w) P w K mg base N qual (defScope st) f cdv A around s H E) (WD E) (defBody st) m) :
    FnG P w K mg base (k + 1) f fd ps (spG K ps.length (runB N.length m)) := by
  refine FnG.of F S (fun vs H Q E h => h.len) fun cdv A around s H vs Q E gr h => ⟨_, body cdv A around s H E gr, ?_⟩
  obtain ⟨ι, Sto, ds, rs, r, e, h⟩ := h
  refine ⟨ι, startE N.length ds, Sto, startE_re N r, rs, ?_⟩
  unfold runB at h
  cases em : m (startE N.length ds) Sto with
  | stk => rw [em] at h; exact h
  | rt d S' => rw [em] at h; exact h
  | nx ρ S' => rw [em] at h; exact fun ι' σ' H' x' rs' re' => h ι' .non H' x' rs' (by simp only [rD, RD])
  | bk ρ S' => rw [em] at h; exact h.elim
  | ct ρ S' => rw [em] at h; exact h.elim
  | ex e ρ S' => rw [em] at h; exact fun ι' σ' H' cls dd x' rs' _ => h ι' H' cls dd x' rs'
/-- another function that says the same where it says anything -/
theorem FnG.to {n : Nat} {F G : List D → Sto → R D} (h : FnG P w K mg base k f fd ps (spG K n F)) (e : ∀ ds S, ds.length = n → G ds S ≠ .stk → F ds S = G ds S) : FnG P w K mg base k f fd ps (spG K n G) := by
  refine h.imp fun vs H Q E q => ?_
  obtain ⟨ι, S, ds, rs, r, hl, q⟩ := q
  refine ⟨ι, S, ds, rs, r, hl, ?_⟩
  rw [e ds S hl fun z => by rw [z] at q; exact q]
  exact q
end

/-! ### calls -/
/-- the values in the parameters' order: (false, i) the i-th positional one, (true, j) the j-th keyword's -/
def pick {α : Type} (perm : List (Bool × Nat)) (us ws : List α) : List α := perm.filterMap fun p => match p with
  | (true, i) => ws[i]?
  | (false, i) => us[i]?
theorem RDs.pick {K : PySem.W.Frag} {ι : List Addr} {H : Hp} {ds es : List D} {vs us : List V} (r : RDs K ι H ds vs) (q : RDs K ι H es us) : ∀ perm, RDs K ι H (pick perm ds es) (DL.pick perm vs us)
  | [] => RDs.nil
  | (b, j) :: perm => by
    have ih := RDs.pick r q perm
    unfold DL.pick at ih ⊢
    rw [List.filterMap_cons, List.filterMap_cons]
    have one : ∀ {xs : List D} {zs : List V} (j : Nat), RDs K ι H xs zs → (xs[j]? = none ∧ zs[j]? = none) ∨ ∃ d v, xs[j]? = some d ∧ zs[j]? = some v ∧ RD K ι H d v := fun {xs zs} j t => by
      cases e : xs[j]? with
      | none => exact .inl ⟨rfl, List.getElem?_eq_none_iff.mpr (by rw [t.length]; exact List.getElem?_eq_none_iff.mp e)⟩
      | some d =>
        obtain ⟨v, a, b⟩ := t.get e
        exact .inr ⟨d, v, rfl, a, b⟩
    cases b with
    | true =>
      rcases one j q with ⟨e1, e2⟩ | ⟨d, v, e1, e2, e3⟩
      · simp only [e1, e2]; exact ih
      · simp only [e1, e2]; exact .cons e3 ih
    | false =>
      rcases one j r with ⟨e1, e2⟩ | ⟨d, v, e1, e2, e3⟩
      · simp only [e1, e2]; exact ih
      · simp only [e1, e2]; exact .cons e3 ih
theorem vals_pick {vs zs : List V} {us ws : List Value} (r : Vals vs us) (q : Vals zs ws) : ∀ perm, Vals (DL.pick perm vs zs) (DL.pick perm us ws)
  | [] => .nil
  | (b, j) :: perm => by
    have ih := vals_pick r q perm
    unfold DL.pick at ih ⊢
    rw [List.filterMap_cons, List.filterMap_cons]
    have one : ∀ {xs : List V} {zs : List Value} (j : Nat), Vals xs zs → (xs[j]? = none ∧ zs[j]? = none) ∨ ∃ d v, xs[j]? = some d ∧ zs[j]? = some v ∧ RelV d v := fun {xs zs} j t => by
      induction t generalizing j with
      | nil => exact .inl ⟨rfl, rfl⟩
      | cons a t ih =>
        cases j with
        | zero => exact .inr ⟨_, _, rfl, rfl, a⟩
        | succ j => simpa using ih j
    cases b with
    | true =>
      rcases one j q with ⟨e1, e2⟩ | ⟨d, v, e1, e2, e3⟩
      · simp only [e1, e2]; exact ih
      · simp only [e1, e2]; exact .cons e3 ih
    | false =>
      rcases one j r with ⟨e1, e2⟩ | ⟨d, v, e1, e2, e3⟩
      · simp only [e1, e2]; exact ih
      · simp only [e1, e2]; exact .cons e3 ih

abbrev FM := List D → Sto → R D
/-- a def of the module that may be called: F of its arguments -/
structure Cal (P : Program) (w : World) (K : PySem.W.Frag) (mg : Str → Option Value) (base : Heap) (k : Nat) (x : Str) (st : Stmt) (ps : List Str) (F : FM) : Prop where
  ex : ∃ f fd, FnG P w K mg base k f fd ps (spG K ps.length F) ∧ mg x = some (.ref f) ∧ Fun K x x st f fd
theorem Cal.mono {P : Program} {w : World} {K : PySem.W.Frag} {mg : Str → Option Value} {base : Heap} {j k : Nat} {x : Str} {st : Stmt} {ps : List Str} {F : FM} (h : Cal P w K mg base k x st ps F) (hk : k ≤ j) : Cal P w K mg base j x st ps F := by
  obtain ⟨f, fd, a, b, c⟩ := h.ex
  exact ⟨f, fd, a.mono hk, b, c⟩
def mCall (n : Nat) (F : FM) (ms : AM) : EM := fun ρ S => (ms ρ S).bind fun xs S1 => if xs.length = n then F xs S1 else .stk
def mCallK (n : Nat) (F : FM) (perm : List (Bool × Nat)) (ms mk : AM) : EM := fun ρ S => (ms ρ S).bind fun xs S1 => (mk ρ S1).bind fun ys S2 => if (pick perm xs ys).length = n then F (pick perm xs ys) S2 else .stk
theorem PR.at {α β : Type} {K : PySem.W.Frag} {rel : Rel α β} {W : WX} {σ : L2.St} {ι : List Addr} {H : Hp} {Q : β → Hp → Prop} {r : R α} (h : PR K rel W σ ι H Q r) : PR K rel (fun cls dd _ H' => W cls dd σ H') [] ι H Q r := by
  cases r with
  | stk => exact h
  | ok d S' => exact h
  | ex e S' => exact h
section
variable {X : Cx} {W : WX} {k : Nat} {x : Str} {st : Stmt} {ps ks : List Str} {F : FM} {p pos : Pos} {e : Expr} {es : List Expr} {kws : List Keyword} {ms mk : AM} {perm : List (Bool × Nat)}
theorem run_g {f : Addr} {fd : FuncData} {pins : List (Addr × Obj)} {σ : L2.St} {H : Hp} {s : Shared} {Q : VK} {given : Args} {us : List Value} {vs : List V} (Fn : FnG X.prog X.w X.K X.mg X.base k f fd ps (spG X.K ps.length F)) (hr : GR k X.A) (tk : Takes X W)
    (hb : BindsTo s fd given (ps.zip us)) (I : L2.Inv X pins σ H s) (r : Vals vs us) (h : spG X.K ps.length F vs H Q (WE W σ)) : wpAny (model X.prog X.w) X.A (call (.ref f) given.pos given.kw) (EP X pins σ Q) X.xe s := by
  refine wpAny_call (codeAny_mono (Fn.go X.A X.stack s H given us vs Q (WE W σ) hr I.env0 hb r h) fun r s' hq => ?_)
  cases r with
  | error e => exact passAt tk σ pins H s e s' I hq
  | ok fl =>
    cases fl with
    | ret u => exact I.after hq
    | next => exact False.elim hq
    | brk => exact False.elim hq
    | cont => exact False.elim hq
/-- f(e, ..) -/
theorem se_call (C : Cal X.prog X.w X.K X.mg X.base k x st ps F) (hr : GR k X.A) (tk : Takes X W)
    (hb : ∀ (kV doc pm : Value) (an : Option Addr) (cdv ct : Value) (us : List Value), us.length = ps.length → bindArgs (PySem.W.fnOf x x (defArgs st) (defBody st) (defScope st) .none kV doc pm an cdv ct) ⟨us, []⟩ = pure (ps.zip us))
    (ha : SA X W (e :: es) ms) (hg : Gl X x := by rfl) (hdb : (x == ("__debug__" : Str)) = false := by decide)
    (he : starEach (e :: es) X.env = (false, eval e X.env) :: starEach es X.env := by rfl) (hpl : (backTo pos (starEach es X.env)).any (·.1) = false := by rfl) :
    SE X W (.Call (.Name x p) (e :: es) [] pos) (mCall ps.length F ms) := by
  obtain ⟨f, fd, Fn, hm, Fu⟩ := C.ex
  have bd := Fu.binds hb
  refine ⟨fun pins s σ H Q I h => ?_⟩
  obtain ⟨ι, ρ, S, re, rs, h⟩ := h
  refine wpAny_Call_Name_kw (ld_glob I hg hm ?_ hdb)
  have h' : tMA X.K W ms σ H (fun vs H1 => spG X.K ps.length F vs H1 Q (WE W σ)) := ⟨ι, ρ, S, re, rs, by
    unfold mCall at h
    refine PR.imp (fun vs H1 hh => ?_) (PR.bind (rel := rDs X.K) h)
    obtain ⟨ι1, ds, S1, x1, rs1, r1, h1⟩ := hh
    split at h1
    · exact ⟨ι1, S1, ds, rs1, r1, by assumption, h1.at⟩
    · exact h1.elim⟩
  refine PySem.W.callWith_K (h₀ := X.base) I.ok.mod.kin Fu.kp (thn (ha.run pos pins s σ H _ I h') fun us s1 ⟨vs, H1, I1, r, q⟩ => ⟨I1.kIn, ?_⟩) he hpl
  have hl : us.length = ps.length := by rw [← r.length]; exact q.len
  have b := bd s1 us I1.kIn (by rw [List.append_nil]; exact hl)
  rw [List.append_nil] at b
  exact run_g (given := ⟨us, []⟩) Fn hr tk b I1 r q
/-- f() -/
theorem se_call0 (C : Cal X.prog X.w X.K X.mg X.base k x st [] F) (hr : GR k X.A) (tk : Takes X W)
    (hb : ∀ (kV doc pm : Value) (an : Option Addr) (cdv ct : Value), bindArgs (PySem.W.fnOf x x (defArgs st) (defBody st) (defScope st) .none kV doc pm an cdv ct) ⟨[], []⟩ = pure [])
    (hg : Gl X x := by rfl) (hdb : (x == ("__debug__" : Str)) = false := by decide) :
    SE X W (.Call (.Name x p) [] [] pos) (fun _ S => F [] S) := by
  obtain ⟨f, fd, Fn, hm, Fu⟩ := C.ex
  have bd := Fu.binds (ps := []) fun kV doc pm an cdv ct us hl => by
    cases us with
    | nil => exact hb _ _ _ _ _ _
    | cons _ _ => cases hl
  refine ⟨fun pins s σ H Q I h => ?_⟩
  obtain ⟨ι, ρ, S, re, rs, h⟩ := h
  refine wpAny_Call_Name_kw (ld_glob I hg hm ?_ hdb)
  have b := bd s [] I.kIn rfl
  exact PySem.W.callWith_K0 I.kIn Fu.kp (run_g (given := ⟨[], []⟩) (us := []) (vs := []) Fn hr tk b I .nil ⟨ι, S, [], rs, .nil, rfl, h.at⟩)

/-- the keywords' values -/
abbrev SK (X : Cx) (W : WX) (kws : List Keyword) (m : AM) : Prop := PK X kws (tMA X.K W m)
theorem PK.imp {t t' : TA} (h : PK X kws t) (q : ∀ σ H Q, t' σ H Q → t σ H Q) : PK X kws t' := ⟨fun pos pins s σ H Q I w => h.run pos pins s σ H Q I (q _ _ _ w)⟩
theorem sk_nil : SK X W [] aNil := PK.imp pk_nil fun σ H Q h => by
  obtain ⟨ι, ρ, S, re, rs, h⟩ := h
  exact h.ret rs RDs.nil
theorem sk_cons {m : EM} {nm : Option Str} {kpos : Pos} (he : SE X W e m) (hr : SK X W kws ms) : SK X W (⟨nm, e, kpos⟩ :: kws) (aCons m ms) := by
  refine PK.imp (pk_cons he hr) fun σ H Q h => ?_
  obtain ⟨ι, ρ, S, re, rs, h⟩ := h
  refine ⟨ι, ρ, S, re, rs, PR.imp (fun v H1 hh => ?_) (PR.bind (rel := rD X.K) h)⟩
  obtain ⟨ι1, d, S1, x1, rs1, r1, h1⟩ := hh
  refine ⟨ι1, ρ, S1, re.mono x1, rs1, PR.imp (fun u H2 hh => ?_) (PR.bind (rel := rDs X.K) h1)⟩
  obtain ⟨ι2, d2, S2, x2, rs2, r2, h2⟩ := hh
  exact h2.ret rs2 (.cons (RD.mono x2 r1) r2)
/-- f(e, .., k = v, ..) -/
theorem se_callK (C : Cal X.prog X.w X.K X.mg X.base k x st ps F) (hr : GR k X.A) (tk : Takes X W) (perm : List (Bool × Nat))
    (hb : ∀ (kV doc pm : Value) (an : Option Addr) (cdv ct : Value) (us ws : List Value), (pick perm us ws).length = ps.length → us.length = (e :: es).length → ws.length = ks.length → bindArgs (PySem.W.fnOf x x (defArgs st) (defBody st) (defScope st) .none kV doc pm an cdv ct) ⟨us, ks.zip ws⟩ = pure (ps.zip (pick perm us ws)))
    (ha : SA X W (e :: es) ms) (hkw : SK X W kws mk) (hnl : ∀ ρ S xs S', ms ρ S = .ok xs S' → xs.length = (e :: es).length) (hkl : ∀ ρ S xs S', mk ρ S = .ok xs S' → xs.length = ks.length)
    (hall : (backToKw pos (keywordEach kws X.env)).all (·.1.isSome) = true := by rfl) (hks : (backToKw pos (keywordEach kws X.env)).filterMap (·.1) = ks := by rfl)
    (hg : Gl X x := by rfl) (hdb : (x == ("__debug__" : Str)) = false := by decide)
    (he : starEach (e :: es) X.env = (false, eval e X.env) :: starEach es X.env := by rfl)
    (hpl : ((backTo pos (starEach (e :: es) X.env)).any (·.1) || (backToKw pos (keywordEach kws X.env)).any (·.1.isNone)) = false := by rfl) :
    SE X W (.Call (.Name x p) (e :: es) kws pos) (mCallK ps.length F perm ms mk) := by
  obtain ⟨f, fd, Fn, hm, Fu⟩ := C.ex
  obtain ⟨oc, od, kV, doc, pm, an, cdv, ct, osl, efd, lk, hcd⟩ := Fu.ex
  refine ⟨fun pins s σ H Q I h => ?_⟩
  obtain ⟨ι, ρ, S, re, rs, h⟩ := h
  refine wpAny_Call_Name_kw (ld_glob I hg hm ?_ hdb)
  have h' : tMA X.K W ms σ H (fun vs H1 => vs.length = (e :: es).length ∧ tMA X.K W mk σ H1 (fun zs H2 => zs.length = ks.length ∧ spG X.K ps.length F (DL.pick perm vs zs) H2 Q (WE W σ))) := ⟨ι, ρ, S, re, rs, by
    unfold mCallK at h
    cases em : ms ρ S with
    | stk => rw [em] at h; exact h
    | ex e S' => rw [em] at h; exact h
    | ok ds S' =>
      rw [em] at h
      intro ι1 vs H1 x1 rs1 r1
      refine ⟨by rw [r1.length]; exact hnl _ _ _ _ em, ι1, ρ, S', re.mono x1, rs1, ?_⟩
      have h1 := PR.mono x1 h
      simp only [bind_ok] at h1
      cases ek : mk ρ S' with
      | stk => rw [ek] at h1; exact h1
      | ex e S' => rw [ek] at h1; exact h1
      | ok es' S2 =>
        rw [ek] at h1
        intro ι2 zs H2 x2 rs2 r2
        refine ⟨by rw [r2.length]; exact hkl _ _ _ _ ek, ι2, S2, _, rs2, (RDs.mono x2 r1).pick r2 perm, ?_⟩
        have h2 := PR.mono x2 h1
        simp only [bind_ok] at h2
        split at h2
        · exact ⟨by assumption, h2.at⟩
        · exact h2.elim⟩
  refine PySem.W.callWith_KW (h₀ := X.base) I.ok.mod.kin Fu.kp hall (thn (ha.run pos pins s σ H _ I h') fun us s1 ⟨vs, H1, I1, r, ql, q⟩ => ?_) hpl he
  refine thn (hkw.run pos pins s1 σ H1 _ I1 q) fun ws s2 ⟨zs, H2, I2, rz, qk, q2⟩ => ⟨I2.kIn, ?_⟩
  rw [hks]
  have rp := vals_pick r rz perm
  have hl : (DL.pick perm us ws).length = ps.length := by rw [← rp.length]; exact q2.len
  refine run_g (given := ⟨us, ks.zip ws⟩) Fn hr tk ?_ I2 rp q2
  subst efd
  exact .of_eq (hb kV doc pm an cdv ct us ws hl (by rw [← r.length]; exact ql) (by rw [← rz.length]; exact qk))
/-- f(k = v, ..) -/
theorem se_callK0 (C : Cal X.prog X.w X.K X.mg X.base k x st ps F) (hr : GR k X.A) (tk : Takes X W) (perm : List (Bool × Nat))
    (hb : ∀ (kV doc pm : Value) (an : Option Addr) (cdv ct : Value) (ws : List Value), (pick perm [] ws).length = ps.length → ws.length = ks.length → bindArgs (PySem.W.fnOf x x (defArgs st) (defBody st) (defScope st) .none kV doc pm an cdv ct) ⟨[], ks.zip ws⟩ = pure (ps.zip (pick perm [] ws)))
    (hkw : SK X W kws mk) (hkl : ∀ ρ S xs S', mk ρ S = .ok xs S' → xs.length = ks.length)
    (hall : (backToKw pos (keywordEach kws X.env)).all (·.1.isSome) = true := by rfl) (hks : (backToKw pos (keywordEach kws X.env)).filterMap (·.1) = ks := by rfl)
    (hg : Gl X x := by rfl) (hdb : (x == ("__debug__" : Str)) = false := by decide)
    (hpl : ((backTo pos (starEach [] X.env)).any (·.1) || (backToKw pos (keywordEach kws X.env)).any (·.1.isNone)) = false := by rfl) :
    SE X W (.Call (.Name x p) [] kws pos) (mCallK ps.length F perm aNil mk) := by
  obtain ⟨f, fd, Fn, hm, Fu⟩ := C.ex
  obtain ⟨oc, od, kV, doc, pm, an, cdv, ct, osl, efd, lk, hcd⟩ := Fu.ex
  refine ⟨fun pins s σ H Q I h => ?_⟩
  obtain ⟨ι, ρ, S, re, rs, h⟩ := h
  refine wpAny_Call_Name_kw (ld_glob I hg hm ?_ hdb)
  have h' : tMA X.K W mk σ H (fun zs H2 => zs.length = ks.length ∧ spG X.K ps.length F (DL.pick perm [] zs) H2 Q (WE W σ)) := ⟨ι, ρ, S, re, rs, by
    have h1 : PR X.K (rD X.K) W σ ι H Q ((mk ρ S).bind fun ys S2 => if (pick perm [] ys).length = ps.length then F (pick perm [] ys) S2 else .stk) := h
    cases ek : mk ρ S with
    | stk => rw [ek] at h1; exact h1
    | ex e S' => rw [ek] at h1; exact h1
    | ok es' S2 =>
      rw [ek] at h1
      intro ι2 zs H2 x2 rs2 r2
      refine ⟨by rw [r2.length]; exact hkl _ _ _ _ ek, ι2, S2, _, rs2, RDs.pick .nil r2 perm, ?_⟩
      have h2 := PR.mono x2 h1
      simp only [bind_ok] at h2
      split at h2
      · exact ⟨by assumption, h2.at⟩
      · exact h2.elim⟩
  refine PySem.W.callWith_KW0 (h₀ := X.base) I.ok.mod.kin Fu.kp hall (thn (hkw.run pos pins s σ H _ I h') fun ws s2 ⟨zs, H2, I2, rz, qk, q2⟩ => ⟨I2.kIn, ?_⟩) hpl
  rw [hks]
  have rp := vals_pick .nil rz perm
  have hl : (DL.pick perm [] ws).length = ps.length := by rw [← rp.length]; exact q2.len
  refine run_g (given := ⟨[], ks.zip ws⟩) Fn hr tk ?_ I2 rp q2
  subst efd
  exact .of_eq (hb kV doc pm an cdv ct ws hl (by rw [← rz.length]; exact qk))
/-- how many: told by the argument list's form -/
theorem len_nil (ρ : Ev) (S : Sto) (xs : List D) (S' : Sto) (h : aNil ρ S = .ok xs S') : xs.length = 0 := by
  unfold aNil at h; cases h; rfl
theorem len_cons {m : EM} {r : AM} {n : Nat} (hr : ∀ ρ S xs S', r ρ S = .ok xs S' → xs.length = n) (ρ : Ev) (S : Sto) (xs : List D) (S' : Sto) (h : aCons m r ρ S = .ok xs S') : xs.length = n + 1 := by
  unfold aCons at h
  cases e1 : m ρ S with
  | stk => rw [e1] at h; cases h
  | ex e S' => rw [e1] at h; cases h
  | ok d S1 =>
    rw [e1] at h
    simp only [bind_ok] at h
    cases e2 : r ρ S1 with
    | stk => rw [e2] at h; cases h
    | ex e S' => rw [e2] at h; cases h
    | ok ds S2 =>
      rw [e2] at h
      cases h
      rw [List.length_cons, hr _ _ _ _ e2]
end
end DL

/-! the D-layer: built-in functions, methods, dict displays -/
namespace DL
open PySem L2

/-! ### lists of one kind -/
def strsD : List D → Option (List Str)
  | [] => some []
  | .str x :: r => (strsD r).map (x :: ·)
  | _ => none
def blsD : List D → Option (List Bool)
  | [] => some []
  | .bl x :: r => (blsD r).map (x :: ·)
  | _ => none
def intsD : List D → Option (List Int)
  | [] => some []
  | .int x :: r => (intsD r).map (x :: ·)
  | _ => none
def itemsD (d : D) (S : Sto) : Option (List D) := match d with
  | .tup xs => some xs
  | .ref n => seqAt S n
  | _ => none
section
variable {K : PySem.W.Frag} {ι : List Addr} {H : Hp} {S : Sto}
theorem strsD_rd : ∀ {ds : List D} {ys : List Str} {vs : List V}, strsD ds = some ys → RDs K ι H ds vs → vs = ys.map V.str
  | [], ys, vs, e, r => by simp only [strsD, Option.some.injEq] at e; subst e; simpa only [RDs, List.map_nil] using r
  | .str x :: ds, ys, vs, e, r => by
    simp only [strsD] at e
    cases e2 : strsD ds with
    | none => rw [e2] at e; cases e
    | some zs =>
      rw [e2] at e
      cases e
      simp only [RDs, RD] at r
      obtain ⟨v, r', rfl, rfl, t⟩ := r
      rw [strsD_rd e2 t]; rfl
  | .non :: _, _, _, e, _ => by simp [strsD] at e
  | .bl _ :: _, _, _, e, _ => by simp [strsD] at e
  | .int _ :: _, _, _, e, _ => by simp [strsD] at e
  | .tup _ :: _, _, _, e, _ => by simp [strsD] at e
  | .ref _ :: _, _, _, e, _ => by simp [strsD] at e
  | .raw _ :: _, _, _, e, _ => by simp [strsD] at e
theorem blsD_rd : ∀ {ds : List D} {ys : List Bool} {vs : List V}, blsD ds = some ys → RDs K ι H ds vs → vs = ys.map V.bl
  | [], ys, vs, e, r => by simp only [blsD, Option.some.injEq] at e; subst e; simpa only [RDs, List.map_nil] using r
  | .bl x :: ds, ys, vs, e, r => by
    simp only [blsD] at e
    cases e2 : blsD ds with
    | none => rw [e2] at e; cases e
    | some zs =>
      rw [e2] at e
      cases e
      simp only [RDs, RD] at r
      obtain ⟨v, r', rfl, rfl, t⟩ := r
      rw [blsD_rd e2 t]; rfl
  | .non :: _, _, _, e, _ => by simp [blsD] at e
  | .str _ :: _, _, _, e, _ => by simp [blsD] at e
  | .int _ :: _, _, _, e, _ => by simp [blsD] at e
  | .tup _ :: _, _, _, e, _ => by simp [blsD] at e
  | .ref _ :: _, _, _, e, _ => by simp [blsD] at e
  | .raw _ :: _, _, _, e, _ => by simp [blsD] at e
theorem intsD_rd : ∀ {ds : List D} {ys : List Int} {vs : List V}, intsD ds = some ys → RDs K ι H ds vs → vs = ys.map V.int
  | [], ys, vs, e, r => by simp only [intsD, Option.some.injEq] at e; subst e; simpa only [RDs, List.map_nil] using r
  | .int x :: ds, ys, vs, e, r => by
    simp only [intsD] at e
    cases e2 : intsD ds with
    | none => rw [e2] at e; cases e
    | some zs =>
      rw [e2] at e
      cases e
      simp only [RDs, RD] at r
      obtain ⟨v, r', rfl, rfl, t⟩ := r
      rw [intsD_rd e2 t]; rfl
  | .non :: _, _, _, e, _ => by simp [intsD] at e
  | .str _ :: _, _, _, e, _ => by simp [intsD] at e
  | .bl _ :: _, _, _, e, _ => by simp [intsD] at e
  | .tup _ :: _, _, _, e, _ => by simp [intsD] at e
  | .ref _ :: _, _, _, e, _ => by simp [intsD] at e
  | .raw _ :: _, _, _, e, _ => by simp [intsD] at e
theorem items_rd {d : D} {xs : List D} {v : V} (rs : RS K ι H S) (e : itemsD d S = some xs) (r : RD K ι H d v) : ∃ p vs, v = .ref p ∧ (SqL K H p vs ∨ SqT K H p vs) ∧ RDs K ι H xs vs := by
  cases d with
  | tup ys =>
    cases e
    simp only [RD] at r
    obtain ⟨p, vs, rfl, q, t⟩ := r
    exact ⟨p, vs, rfl, .inr q, t⟩
  | ref n =>
    obtain ⟨p, vs, rfl, _, q, t⟩ := rs.seq e r
    exact ⟨p, vs, rfl, .inl q, t⟩
  | _ => cases e
theorem one_rd {d : D} {vs : List V} (r : RDs K ι H [d] vs) : ∃ v, vs = [v] ∧ RD K ι H d v := by
  simp only [RDs] at r
  obtain ⟨v, r', rfl, a, rfl⟩ := r
  exact ⟨v, rfl, a⟩
theorem two_rd {d e : D} {vs : List V} (r : RDs K ι H [d, e] vs) : ∃ v u, vs = [v, u] ∧ RD K ι H d v ∧ RD K ι H e u := by
  simp only [RDs] at r
  obtain ⟨v, r', rfl, a, u, r2, rfl, b, rfl⟩ := r
  exact ⟨v, u, rfl, a, b⟩
end

/-! ### a call of a built-in -/
def mCB (f : DOps) (ms : AM) : EM := fun ρ S => (ms ρ S).bind fun xs S1 => ofO (f xs S1)
section
variable {X : Cx} {W : WX} {x : Str} {p pos : Pos} {e : Expr} {es : List Expr} {ms : AM} {id T : String} {f : DOps}
theorem cb_go {K : PySem.W.Frag} {σ : L2.St} {H : Hp} {Q : VK} (h : tM K W (mCB f ms) σ H Q) : tCB (rOps K f) (tMA K W ms) σ H Q := by
  obtain ⟨ι, ρ, S, re, rs, h⟩ := h
  refine ⟨ι, ρ, S, re, rs, PR.imp (fun v H1 hh => ?_) (PR.bind (rel := rDs K) h)⟩
  obtain ⟨ι1, d, S1, x1, rs1, r1, h1⟩ := hh
  exact ⟨ι1, S1, d, rs1, r1, PV.of h1⟩
theorem se_callB (hc : CallR X (.builtin id) (rOps X.K f)) (hm : X.mg x = none) (hv : bootBuiltins x = some (.builtin id)) (ha : SA X W (e :: es) ms) (hg : Gl X x := by rfl) (hn : x ≠ "__name__" := by decide) (hdb : (x == ("__debug__" : Str)) = false := by decide)
    (he : starEach (e :: es) X.env = (false, eval e X.env) :: starEach es X.env := by rfl) (hpl : (backTo pos (starEach es X.env)).any (·.1) = false := by rfl) : SE X W (.Call (.Name x p) (e :: es) [] pos) (mCB f ms) :=
  PE.imp (pe_callB hc hg hm hv ha hn hdb he hpl) fun _ _ _ h => cb_go h
theorem se_callTy (hc : CallR X (.type T) (rOps X.K f)) (hm : X.mg x = none) (hv : bootBuiltins x = some (.type T)) (ha : SA X W (e :: es) ms) (hg : Gl X x := by rfl) (hn : x ≠ "__name__" := by decide) (hdb : (x == ("__debug__" : Str)) = false := by decide)
    (he : starEach (e :: es) X.env = (false, eval e X.env) :: starEach es X.env := by rfl) (hpl : (backTo pos (starEach es X.env)).any (·.1) = false := by rfl) : SE X W (.Call (.Name x p) (e :: es) [] pos) (mCB f ms) :=
  PE.imp (pe_callTy hc hg hm hv ha hn hdb he hpl) fun _ _ _ h => cb_go h
/-- a built-in class as a value -/
theorem se_ty {x : Str} {T : String} (hm : X.mg x = none) (hv : bootBuiltins x = some (.type T)) (hg : Gl X x := by rfl) (hn : x ≠ "__name__" := by decide) (hd : (x == ("__debug__" : Str)) = false := by decide) : SE X W (.Name x pos) (mC (.raw (.ty T))) :=
  PE.imp (pe_bltn (v := .ty T) hg hm hv rfl hn hd) fun σ H Q h => tG_c (fun _ _ => by simp only [RD]) h
end

def bLen : DOps := fun xs S => match xs with
  | [d] => match itemsD d S with
    | some ys => some (.int ys.length, S)
    | none => match d with
      | .str z => if z.length ≤ sizeLine then some (.int z.length, S) else none
      | .ref n => match S[n]? with
        | some (.dct kvs) => some (.int kvs.length, S)
        | _ => none
      | _ => none
  | _ => none
def bList : DOps := fun xs S => match xs with
  | [d] => (itemsD d S).map fun ys => (.ref S.length, S ++ [.lst ys])
  | _ => none
def bTuple : DOps := fun xs S => match xs with
  | [d] => (itemsD d S).map fun ys => (.tup ys, S)
  | _ => none
def seqB (d : D) (S : Sto) : Option (List Bool) := match d with
  | .ref n => (seqAt S n).bind blsD
  | _ => none
def seqZ (d : D) (S : Sto) : Option (List Int) := match d with
  | .ref n => (seqAt S n).bind intsD
  | _ => none
def bAll : DOps := fun xs S => match xs with
  | [d] => (seqB d S).map fun bs => (.bl (bs.all id), S)
  | _ => none
def bAny : DOps := fun xs S => match xs with
  | [d] => (seqB d S).map fun bs => (.bl (bs.any id), S)
  | _ => none
def bSum : DOps := fun xs S => match xs with
  | [d] => (seqZ d S).map fun ns => (.int ns.sum, S)
  | _ => none
def bOrd : DOps := fun xs S => match xs with
  | [.str z] => if z.length = 1 then some (.int (z.cps.getD 0 0 : Nat), S) else none
  | _ => none
def tyD (S : Sto) : D → Option String
  | .non => some "NoneType"
  | .bl _ => some "bool"
  | .int _ => some "int"
  | .str _ => some "str"
  | .tup _ => some "tuple"
  | .ref n => match S[n]? with
    | some (.lst _) => some "list"
    | some (.fz _) => some "list"
    | some (.dct _) => some "dict"
    | _ => none
  | .raw _ => none
def bIsi : DOps := fun xs S => match xs with
  | [d, .raw (.ty T)] => (tyD S d).bind fun t => (kitB t T).map fun b => (.bl b, S)
  | _ => none
def okRepr (p : PyData) : Bool := p.showable && decide (p.depth ≤ 60) && decide (p.shown.length ≤ sizeLine)
def bRepr : DOps := fun xs S => match xs with
  | [d] => (toP S d).bind fun p => if okRepr p = true then some (.str p.shown, S) else none
  | _ => none
def bInt : DOps := fun xs S => match xs with
  | [.int i] => some (.int i, S)
  | [.bl b] => some (.int (PyProof.Rows.b2i b), S)
  | _ => none
section
variable {X : Cx}
theorem c_len : CallR X (.builtin "len") (rOps X.K bLen) := by
  intro pins s σ H xs us Q I r h
  obtain ⟨ι, S, ds, rs, rd, hh⟩ := h
  unfold bLen at hh
  split at hh
  · rename_i d
    obtain ⟨v, rfl, rv⟩ := one_rd rd
    split at hh
    · rename_i ys e
      obtain ⟨p, vs, rfl, q, t⟩ := items_rd rs e rv
      exact call_len_seq pins s σ H _ us Q I r ⟨p, vs, rfl, q, PV.ret hh rs (by simp only [RD]; rw [t.length])⟩
    · split at hh
      · rename_i z he
        split at hh
        · simp only [RD] at rv
          subst rv
          exact call_len_str pins s σ H _ us Q I r ⟨z, rfl, by assumption, PV.ret hh rs (by simp only [RD])⟩
        · exact hh.elim
      · rename_i n _
        split at hh
        · rename_i kvs e
          obtain ⟨p, vs, rfl, _, hH, rk⟩ := rs.dct e rv
          exact call_lenD pins s σ H _ us Q I r ⟨p, vs, rfl, hH, PV.ret hh rs (by simp only [RD]; rw [rk.length])⟩
        · exact hh.elim
      · exact hh.elim
  · exact hh.elim
theorem c_list : CallR X (.type "list") (rOps X.K bList) := by
  intro pins s σ H xs us Q I r h
  obtain ⟨ι, S, ds, rs, rd, hh⟩ := h
  unfold bList at hh
  split at hh
  · rename_i d
    obtain ⟨v, rfl, rv⟩ := one_rd rd
    cases e : itemsD d S with
    | none => rw [e] at hh; exact hh.elim
    | some ys =>
      rw [e] at hh
      obtain ⟨p, vs, rfl, q, t⟩ := items_rd rs e rv
      exact call_list_of pins s σ H _ us Q I r ⟨p, vs, rfl, q, new_lst rs t hh⟩
  · exact hh.elim
theorem c_tuple : CallR X (.type "tuple") (rOps X.K bTuple) := by
  intro pins s σ H xs us Q I r h
  obtain ⟨ι, S, ds, rs, rd, hh⟩ := h
  unfold bTuple at hh
  split at hh
  · rename_i d
    obtain ⟨v, rfl, rv⟩ := one_rd rd
    cases e : itemsD d S with
    | none => rw [e] at hh; exact hh.elim
    | some ys =>
      rw [e] at hh
      obtain ⟨p, vs, rfl, q, t⟩ := items_rd rs e rv
      refine call_tuple_of pins s σ H _ us Q I r ⟨p, vs, rfl, ?_⟩
      rcases q with q | q
      · exact .inl ⟨q, new_tup rs t hh⟩
      · exact .inr ⟨q, PV.ret hh rs (by simp only [RD]; exact ⟨p, vs, rfl, q, t⟩)⟩
  · exact hh.elim
theorem seqB_rd {K : PySem.W.Frag} {ι : List Addr} {H : Hp} {S : Sto} {d : D} {bs : List Bool} {v : V} (rs : RS K ι H S) (e : seqB d S = some bs) (r : RD K ι H d v) : ∃ p, v = .ref p ∧ SqL K H p (bs.map V.bl) := by
  unfold seqB at e
  split at e
  · rename_i n
    cases e2 : seqAt S n with
    | none => rw [e2] at e; cases e
    | some ys =>
      rw [e2] at e
      obtain ⟨p, vs, rfl, _, q, t⟩ := rs.seq e2 r
      have := blsD_rd e t
      subst this
      exact ⟨p, rfl, q⟩
  · cases e
theorem seqZ_rd {K : PySem.W.Frag} {ι : List Addr} {H : Hp} {S : Sto} {d : D} {bs : List Int} {v : V} (rs : RS K ι H S) (e : seqZ d S = some bs) (r : RD K ι H d v) : ∃ p, v = .ref p ∧ SqL K H p (bs.map V.int) := by
  unfold seqZ at e
  split at e
  · rename_i n
    cases e2 : seqAt S n with
    | none => rw [e2] at e; cases e
    | some ys =>
      rw [e2] at e
      obtain ⟨p, vs, rfl, _, q, t⟩ := rs.seq e2 r
      have := intsD_rd e t
      subst this
      exact ⟨p, rfl, q⟩
  · cases e
theorem c_all (hc : X.calm = true) : CallR X (.builtin "all") (rOps X.K bAll) := by
  intro pins s σ H xs us Q I r h
  obtain ⟨ι, S, ds, rs, rd, hh⟩ := h
  unfold bAll at hh
  split at hh
  · rename_i d
    obtain ⟨v, rfl, rv⟩ := one_rd rd
    cases e : seqB d S with
    | none => rw [e] at hh; exact hh.elim
    | some bs =>
      rw [e] at hh
      obtain ⟨p, rfl, q⟩ := seqB_rd rs e rv
      exact cr_all hc pins s σ H _ us Q I r ⟨p, bs, rfl, q, PV.ret hh rs (by simp only [RD])⟩
  · exact hh.elim
theorem c_any (hc : X.calm = true) : CallR X (.builtin "any") (rOps X.K bAny) := by
  intro pins s σ H xs us Q I r h
  obtain ⟨ι, S, ds, rs, rd, hh⟩ := h
  unfold bAny at hh
  split at hh
  · rename_i d
    obtain ⟨v, rfl, rv⟩ := one_rd rd
    cases e : seqB d S with
    | none => rw [e] at hh; exact hh.elim
    | some bs =>
      rw [e] at hh
      obtain ⟨p, rfl, q⟩ := seqB_rd rs e rv
      exact cr_any hc pins s σ H _ us Q I r ⟨p, bs, rfl, q, PV.ret hh rs (by simp only [RD])⟩
  · exact hh.elim
theorem c_sum (hc : X.calm = true) : CallR X (.builtin "sum") (rOps X.K bSum) := by
  intro pins s σ H xs us Q I r h
  obtain ⟨ι, S, ds, rs, rd, hh⟩ := h
  unfold bSum at hh
  split at hh
  · rename_i d
    obtain ⟨v, rfl, rv⟩ := one_rd rd
    cases e : seqZ d S with
    | none => rw [e] at hh; exact hh.elim
    | some bs =>
      rw [e] at hh
      obtain ⟨p, rfl, q⟩ := seqZ_rd rs e rv
      exact cr_sum hc pins s σ H _ us Q I r ⟨p, bs, rfl, q, PV.ret hh rs (by simp only [RD])⟩
  · exact hh.elim
theorem c_ord : CallR X (.builtin "ord") (rOps X.K bOrd) := by
  intro pins s σ H xs us Q I r h
  obtain ⟨ι, S, ds, rs, rd, hh⟩ := h
  unfold bOrd at hh
  split at hh
  · rename_i z
    obtain ⟨v, rfl, rv⟩ := one_rd rd
    simp only [RD] at rv
    subst rv
    split at hh
    · exact call_ord pins s σ H _ us Q I r ⟨z, rfl, by assumption, PV.ret hh rs (by simp only [RD])⟩
    · exact hh.elim
  · exact hh.elim
theorem tyD_rd {K : PySem.W.Frag} {ι : List Addr} {H : Hp} {S : Sto} {d : D} {t : String} {v : V} (rs : RS K ι H S) (e : tyD S d = some t) (r : RD K ι H d v) : TyX K H v (.type t) := by
  cases d with
  | non => cases e; simp only [RD] at r; subst r; exact .base .non
  | bl b => cases e; simp only [RD] at r; subst r; exact .base (.bl b)
  | int i => cases e; simp only [RD] at r; subst r; exact .base (.int i)
  | str z => cases e; simp only [RD] at r; subst r; exact .base (.str z)
  | tup ys =>
    cases e
    simp only [RD] at r
    obtain ⟨p, vs, rfl, q, t⟩ := r
    rcases q with (q | ⟨o, q⟩) | ⟨o, its, n, hk, hc, _⟩
    · exact .base (.tup q)
    · exact .fTuple q
    · exact .kTuple hk hc
  | ref n =>
    have seqc : ∀ xs, seqAt S n = some xs → TyX K H v (.type "list") := fun xs hx => by
      obtain ⟨p, vs, rfl, _, q, t⟩ := rs.seq hx r
      rcases q with (q | ⟨o, q⟩) | ⟨o, its, n, hk, hc, _⟩
      · exact .base (.lst q)
      · exact .base (.frz q)
      · exact .kList hk hc
    simp only [tyD] at e
    split at e
    · rename_i xs hn; cases e; exact seqc xs (by unfold seqAt; rw [hn])
    · rename_i xs hn; cases e; exact seqc xs (by unfold seqAt; rw [hn])
    · rename_i kvs hn
      cases e
      obtain ⟨p, vs, rfl, _, hH, rk⟩ := rs.dct hn r
      exact .base (.dK hH)
    · cases e
  | raw u => cases e
theorem c_isi : CallR X (.builtin "isinstance") (rOps X.K bIsi) := by
  intro pins s σ H xs us Q I r h
  obtain ⟨ι, S, ds, rs, rd, hh⟩ := h
  unfold bIsi at hh
  split at hh
  · rename_i d T
    obtain ⟨v, u, rfl, r1, r2⟩ := two_rd rd
    simp only [RD] at r2
    subst r2
    cases e : tyD S d with
    | none => rw [e] at hh; exact hh.elim
    | some t =>
      rw [e] at hh
      cases ek : kitB t T with
      | none => simp only [Option.bind_some, ek] at hh; exact hh.elim
      | some b =>
        simp only [Option.bind_some, ek] at hh
        exact call_isi pins s σ H _ us Q I r ⟨v, .ty T, .type t, .type T, b, rfl, .ty T, tyD_rd rs e r1, kit_ty ek, PV.ret hh rs (by simp only [RD])⟩
  · exact hh.elim
theorem c_repr (hg : X.A.guards = some []) (hu : X.A.units + 100 < cLine) (sk : SysK X.K) : CallR X (.builtin "repr") (rOps X.K bRepr) := by
  intro pins s σ H xs us Q I r h
  obtain ⟨ι, S, ds, rs, rd, hh⟩ := h
  unfold bRepr at hh
  split at hh
  · rename_i d
    obtain ⟨v, rfl, rv⟩ := one_rd rd
    obtain ⟨u, rfl, ru⟩ := vals1 r
    cases e : toP S d with
    | none => rw [e] at hh; exact hh.elim
    | some p =>
      rw [e] at hh
      simp only [Option.bind_some] at hh
      split at hh
      · rename_i hok
        simp only [okRepr, Bool.and_eq_true, decide_eq_true_eq] at hok
        obtain ⟨⟨h1, h2⟩, h3⟩ := hok
        have hq : Q (.str p.shown) H := PV.ret hh rs (by simp only [RD])
        obtain ⟨as, rp, na⟩ := toP_reads sk I rs rv ru e
        cases rp with
        | none => exact PySem.P.repr_of_none ⟨.str _, H, I.tok _, ⟨_, rfl⟩, by simpa only [PyData.shown] using hq⟩
        | bool b => exact PySem.P.repr_of_bool ⟨.str _, H, I.tok _, ⟨_, rfl⟩, by simpa only [PyData.shown] using hq⟩
        | int i t => exact PySem.P.repr_of_int (by simpa only [PyData.showable, decide_eq_true_eq] using h1) ⟨.str _, H, I.tok _, ⟨_, rfl⟩, by simpa only [PyData.shown] using hq⟩
        | str z t => exact PySem.P.repr_of_str ⟨.str _, H, I.tok _, ⟨_, rfl⟩, by simpa only [PyData.shown] using hq⟩ (by simpa only [PyData.shown] using h3)
        | list a b c d' => exact repr_of_reads' (h₀ := s.heap) (.list a b c d') h1 (fun _ => na) hg (by omega) (fun _ _ e => e) (fun h' u tk kp => ⟨.str _, H, I.kept kp, ⟨_, rfl⟩, hq⟩) h3
        | tuple a b c d' => exact repr_of_reads' (h₀ := s.heap) (.tuple a b c d') h1 (fun _ => na) hg (by omega) (fun _ _ e => e) (fun h' u tk kp => ⟨.str _, H, I.kept kp, ⟨_, rfl⟩, hq⟩) h3
        | dict a b c d' e' => exact repr_of_reads' (h₀ := s.heap) (.dict a b c d' e') h1 (fun _ => na) hg (by omega) (fun _ _ e => e) (fun h' u tk kp => ⟨.str _, H, I.kept kp, ⟨_, rfl⟩, hq⟩) h3
      · exact hh.elim
  · exact hh.elim
end

/-! ### x in y -/
def inD (x y : D) (S : Sto) : Option Bool := match x, y with
  | .str i, .str j => if i.length = 1 then some (decide (i.cps.getD 0 0 ∈ j.cps.toList)) else some (!(Builtin.Str.occurrences j i 0 j.length 1).isEmpty)
  | _, _ => match toP S x, toP S y with
    | some p, some (.list qs) => if (SeqAt.shaped p && SeqAt.shaped (.list qs)) = true then some (qs.any fun z => PyData.eqv z p) else none
    | some p, some (.tuple qs) => if (SeqAt.shaped p && SeqAt.shaped (.tuple qs)) = true then some (qs.any fun z => PyData.eqv z p) else none
    | _, _ => none
end DL

/-! the D-layer: int, in, methods, dict displays -/
namespace DL
open PySem L2

section
variable {X : Cx}
theorem c_int : CallR X (.type "int") (rOps X.K bInt) := by
  intro pins s σ H xs us Q I r h
  obtain ⟨ι, S, ds, rs, rd, hh⟩ := h
  unfold bInt at hh
  split at hh
  · rename_i i
    obtain ⟨v, rfl, rv⟩ := one_rd rd
    simp only [RD] at rv
    subst rv
    exact call_int1 pins s σ H _ us Q I r (.inl ⟨i, rfl, PV.ret hh rs (by simp only [RD])⟩)
  · rename_i b
    obtain ⟨v, rfl, rv⟩ := one_rd rd
    simp only [RD] at rv
    subst rv
    exact call_int1 pins s σ H _ us Q I r (.inr ⟨b, rfl, PV.ret hh rs (by simp only [RD]; cases b <;> rfl)⟩)
  · exact hh.elim

theorem str_one {i : Str} (h : i.length = 1) : i = ⟨#[i.cps.getD 0 0]⟩ := by
  obtain ⟨⟨l⟩⟩ := i
  match l, h with
  | [c], _ => rfl

/-! ### x in y -/
theorem o_in (hu : X.A.units + 65 < cLine) (sk : SysK X.K) : OpR X (compareOp .In) (rOp X.K fun x y S => (inD x y S).map fun b => (.bl b, S)) := by
  intro pins s σ H a b v u Q I ra rb h
  obtain ⟨ι, S, x, y, rs, rx, ry, hh⟩ := h
  cases hk : inD x y S with
  | none => simp only [hk] at hh; exact hh.elim
  | some k =>
    simp only [hk] at hh
    have q : Q (.bl k) H := PV.ret hh rs (by simp only [RD])
    unfold inD at hk
    split at hk
    · rename_i i j
      simp only [RD] at rx ry
      subst rx; subst ry
      split at hk
      · rename_i h1
        cases hk
        refine op_in_sign pins s σ H _ _ v u Q I ra rb ⟨i.cps.getD 0 0, j, ?_, rfl, q⟩
        rw [← str_one h1]
      · cases hk
        exact op_in_str pins s σ H _ _ v u Q I ra rb ⟨i, j, rfl, rfl, q⟩
    · split at hk
      · rename_i p qs ep eq
        split at hk
        · rename_i hs
          rw [Bool.and_eq_true] at hs
          cases hk
          obtain ⟨as, r1, _⟩ := toP_reads sk I rs rx ra ep
          obtain ⟨bs, r2, _⟩ := toP_reads sk I rs ry rb eq
          exact SeqAt.in_list_reads r2 r1 (SeqAt.canLay_of_shaped hs.2) (SeqAt.canLay_of_shaped hs.1) (PyProof.Rows.room_in_shaped hs.1 hu) ⟨.bl _, H, I, rfl, q⟩
        · cases hk
      · rename_i p qs ep eq
        split at hk
        · rename_i hs
          rw [Bool.and_eq_true] at hs
          cases hk
          obtain ⟨as, r1, _⟩ := toP_reads sk I rs rx ra ep
          obtain ⟨bs, r2, _⟩ := toP_reads sk I rs ry rb eq
          exact SeqAt.in_tuple_reads r2 r1 (SeqAt.canLay_of_shaped hs.2) (SeqAt.canLay_of_shaped hs.1) (PyProof.Rows.room_in_shaped hs.1 hu) ⟨.bl _, H, I, rfl, q⟩
        · cases hk
      · cases hk
theorem o_notIn (hu : X.A.units + 65 < cLine) (sk : SysK X.K) : OpR X (compareOp .NotIn) (rOp X.K fun x y S => (inD x y S).map fun b => (.bl (!b), S)) := by
  intro pins s σ H a b v u Q I ra rb h
  obtain ⟨ι, S, x, y, rs, rx, ry, hh⟩ := h
  cases hk : inD x y S with
  | none => simp only [hk] at hh; exact hh.elim
  | some k =>
    simp only [hk] at hh
    have q : Q (.bl (!k)) H := PV.ret hh rs (by simp only [RD])
    unfold inD at hk
    split at hk
    · rename_i i j
      simp only [RD] at rx ry
      subst rx; subst ry
      split at hk
      · rename_i h1
        cases hk
        refine op_notIn_sign pins s σ H _ _ v u Q I ra rb ⟨i.cps.getD 0 0, j, ?_, rfl, q⟩
        rw [← str_one h1]
      · cases hk
        exact op_notin_str pins s σ H _ _ v u Q I ra rb ⟨i, j, rfl, rfl, q⟩
    · split at hk
      · rename_i p qs ep eq
        split at hk
        · rename_i hs
          rw [Bool.and_eq_true] at hs
          cases hk
          obtain ⟨as, r1, _⟩ := toP_reads sk I rs rx ra ep
          obtain ⟨bs, r2, _⟩ := toP_reads sk I rs ry rb eq
          exact SeqAt.notIn_list_reads r2 r1 (SeqAt.canLay_of_shaped hs.2) (SeqAt.canLay_of_shaped hs.1) (PyProof.Rows.room_in_shaped hs.1 hu) ⟨.bl _, H, I, rfl, q⟩
        · cases hk
      · rename_i p qs ep eq
        split at hk
        · rename_i hs
          rw [Bool.and_eq_true] at hs
          cases hk
          obtain ⟨as, r1, _⟩ := toP_reads sk I rs rx ra ep
          obtain ⟨bs, r2, _⟩ := toP_reads sk I rs ry rb eq
          exact SeqAt.notIn_tuple_reads r2 r1 (SeqAt.canLay_of_shaped hs.2) (SeqAt.canLay_of_shaped hs.1) (PyProof.Rows.room_in_shaped hs.1 hu) ⟨.bl _, H, I, rfl, q⟩
        · cases hk
      · cases hk
end
def dIn : DOp := fun x y S => (inD x y S).map fun b => (.bl b, S)
def dNotIn : DOp := fun x y S => (inD x y S).map fun b => (.bl (!b), S)

/-! ### methods -/
abbrev DM := D → List D → Sto → Option (D × Sto)
def rMt (K : PySem.W.Frag) (f : DM) : V → List V → Hp → VK → Prop := fun v vs H Q => ∃ ι S x xs, RS K ι H S ∧ RD K ι H x v ∧ RDs K ι H xs vs ∧ PV K ι H Q (f x xs S)
inductive Rc where
  | str | lst | dct
def Rc.name : Rc → String
  | .str => "str"
  | .lst => "list"
  | .dct => "dict"
def Rc.is (c : Rc) (x : D) (S : Sto) : Bool := match c, x with
  | .str, .str _ => true
  | .lst, .ref n => (seqAt S n).isSome
  | .dct, .ref n => match S[n]? with
    | some (.dct _) => true
    | _ => false
  | _, _ => false
theorem Rc.ty {K : PySem.W.Frag} {ι : List Addr} {H : Hp} {S : Sto} {c : Rc} {d : D} {v : V} (rs : RS K ι H S) (h : c.is d S = true) (r : RD K ι H d v) : tyV K c.name v H := by
  unfold Rc.is at h
  split at h
  · simp only [RD] at r; subst r; rfl
  · rename_i n
    cases e : seqAt S n with
    | none => rw [e] at h; cases h
    | some xs =>
      obtain ⟨p, vs, rfl, _, q, _⟩ := rs.seq e r
      exact .inl ⟨rfl, vs, q⟩
  · rename_i n
    split at h
    · rename_i kvs e
      obtain ⟨p, vs, rfl, _, hH, _⟩ := rs.dct e r
      exact .inr (.inr (.inl ⟨rfl, .inl ⟨_, hH⟩⟩))
    · cases h
  · cases h
def mMt (c : Rc) (f : DM) (mo : EM) (ms : AM) : EM := fun ρ S => (mo ρ S).bind fun o S1 => if c.is o S1 = true then (ms ρ S1).bind fun xs S2 => ofO (f o xs S2) else .stk
section
variable {X : Cx} {W : WX} {o e : Expr} {es : List Expr} {mo : EM} {ms : AM} {name : Str} {apos cpos : Pos} {id : String} {f : DM} {c : Rc}
theorem mt_go {K : PySem.W.Frag} {σ : L2.St} {H : Hp} {Q : VK} (h : tM K W (mMt c f mo ms) σ H Q) : tBM K c.name (rMt K f) (tM K W mo) (tMA K W ms) σ H Q := by
  obtain ⟨ι, ρ, S, re, rs, h⟩ := h
  refine ⟨ι, ρ, S, re, rs, PR.imp (fun v H1 hh => ?_) (PR.bind (rel := rD K) h)⟩
  obtain ⟨ι1, d, S1, x1, rs1, r1, h1⟩ := hh
  split at h1
  · rename_i hc
    refine ⟨Rc.ty rs1 hc r1, ι1, ρ, S1, re.mono x1, rs1, PR.imp (fun u H2 hh => ?_) (PR.bind (rel := rDs K) h1)⟩
    obtain ⟨ι2, d2, S2, x2, rs2, r2, h2⟩ := hh
    exact ⟨ι2, S2, d, d2, rs2, RD.mono x2 r1, r2, PV.of h2⟩
  · exact h1.elim
theorem mt_go0 {K : PySem.W.Frag} {σ : L2.St} {H : Hp} {Q : VK} (h : tM K W (mMt c f mo aNil) σ H Q) : tBM0 K c.name (rMt K f) (tM K W mo) σ H Q := by
  obtain ⟨ι, ρ, S, re, rs, h⟩ := h
  refine ⟨ι, ρ, S, re, rs, PR.imp (fun v H1 hh => ?_) (PR.bind (rel := rD K) h)⟩
  obtain ⟨ι1, d, S1, x1, rs1, r1, h1⟩ := hh
  split at h1
  · rename_i hc
    exact ⟨Rc.ty rs1 hc r1, ι1, S1, d, [], rs1, r1, .nil, PV.of (W := W) (σ := σ) h1⟩
  · exact h1.elim
/-- o.m(e, ..) -/
theorem se_mt (pa : PlainAttrs c.name) (slot : Slot c.name name id) (hty : typeOf (.builtin id) = pure (.type "method_descriptor")) (hm : MtR X id (rMt X.K f)) (ho : SE X W o mo) (ha : SA X W (e :: es) ms)
    (hbase : attributeBase o name X.env (eval o X.env) = eval o X.env := by rfl)
    (hfew : ((backTo cpos (starEach (e :: es) X.env)).all (fun x => !x.1) && (backToKw cpos (keywordEach [] X.env)).all (fun x => x.1.isSome)
      && decide ((e :: es).length + ([] : List Keyword).length + (if ([] : List Keyword).isEmpty then 0 else 1) < 30)) = true := by rfl)
    (hline : (apos.endLine == cpos.line) = true := by rfl) (hs : starEach (e :: es) X.env = (false, eval e X.env) :: starEach es X.env := by rfl) (hplain : (backTo cpos (starEach es X.env)).any (·.1) = false := by rfl) :
    SE X W (.Call (.Attribute o name apos) (e :: es) [] cpos) (mMt c f mo ms) :=
  PE.imp (pe_bm pa slot hty hm ho ha hbase hfew hline hs hplain) fun _ _ _ h => mt_go h
theorem se_mt0 (pa : PlainAttrs c.name) (slot : Slot c.name name id) (hty : typeOf (.builtin id) = pure (.type "method_descriptor")) (hm : MtR X id (rMt X.K f)) (ho : SE X W o mo)
    (hbase : attributeBase o name X.env (eval o X.env) = eval o X.env := by rfl) (hline : (apos.endLine == cpos.line) = true := by rfl) : SE X W (.Call (.Attribute o name apos) [] [] cpos) (mMt c f mo aNil) :=
  PE.imp (pe_bm0 pa slot hty hm ho hbase hline) fun _ _ _ h => mt_go0 h
end
def dAppend : DM := fun x xs S => match x, xs with
  | .ref n, [d] => match S[n]? with
    | some (.lst ys) => if ys.length < sizeLine then some (.non, S.set n (.lst (ys ++ [d]))) else none
    | _ => none
  | _, _ => none
def dExtend : DM := fun x xs S => match x, xs with
  | .ref n, [.ref m] => match S[n]?, S[m]? with
    | some (.lst ys), some (.lst zs) => if ys.length + zs.length ≤ sizeLine then some (.non, S.set n (.lst (ys ++ zs))) else none
    | _, _ => none
  | _, _ => none
def dPop : DM := fun x xs S => match x, xs with
  | .ref n, [] => match S[n]? with
    | some (.lst ys) => (ys[ys.length - 1]?).map fun y => (y, S.set n (.lst ys.dropLast))
    | _ => none
  | _, _ => none
def dJoin : DM := fun x xs S => match x, xs with
  | .str a, [d] => ((itemsD d S).bind strsD).bind fun ys => if (ys.map (·.length)).sum + ys.length * a.length ≤ 16777216 then some (.str (Txt.join a ys), S) else none
  | _, _ => none
def dSplit : DM := fun x xs S => match x, xs with
  | .str a, [.str b] => if ((b.length != 0) && decide (a.length + 2 ≤ sizeLine)) = true then some (.ref S.length, S ++ [.lst ((Txt.split a b).map .str)]) else none
  | .str a, [] => if a.length + 2 ≤ sizeLine then some (.ref S.length, S ++ [.lst ((Txt.words a).map .str)]) else none
  | _, _ => none
def dRstrip : DM := fun x xs S => match x, xs with
  | .str a, [.str b] => if a.length ≤ sizeLine then some (.str (Txt.rstripChars a b), S) else none
  | _, _ => none
def dCount : DM := fun x xs S => match x, xs with
  | .str a, [.str b] => some (.int (Txt.count a b), S)
  | _, _ => none
def dFind : DM := fun x xs S => match x, xs with
  | .str a, [.str b] => some (.int (Txt.find a b), S)
  | .str a, [.str b, .int i] => some (.int (Txt.find3 a b i), S)
  | _, _ => none
/-- s.index(y), y within s -/
def dIndex : DM := fun x xs S => match x, xs with
  | .str a, [.str b] => (Txt.index0 a b).map fun k => (.int (k : Nat), S)
  | _, _ => none
section
variable {X : Cx}
theorem RDs.dropLast {K : PySem.W.Frag} {ι : List Addr} {H : Hp} {ds : List D} {vs : List V} (r : RDs K ι H ds vs) : RDs K ι H ds.dropLast vs.dropLast := by
  rw [List.dropLast_eq_take, List.dropLast_eq_take, r.length]
  exact r.take _
theorem t_append : MtR X "list.append" (rMt X.K dAppend) := by
  intro pins s σ H x xs v us Q I rx rxs h
  obtain ⟨ι, S, d, ds, rs, rd, rds, hh⟩ := h
  unfold dAppend at hh
  split at hh
  · rename_i n y
    obtain ⟨w, rfl, rw'⟩ := one_rd rds
    split at hh
    · rename_i ys hn
      split at hh
      · rename_i hz
        obtain ⟨p, vs, rfl, hp, hH, r⟩ := rs.lst hn rd
        have nt : ∀ zs, HO.lst vs ≠ .tup zs := fun _ z => by cases z
        have nf : ∀ b u, HO.lst vs ≠ .frz b u := fun _ _ z => by cases z
        refine mt_append pins s σ H _ _ v us Q I rx rxs ⟨p, vs, w, rfl, rfl, hH, by rw [r.length]; exact hz, ?_⟩
        have x1 : Ext X.K ι H ι (upd H p (.lst (vs ++ [w]))) := .put hH nt nf trivial
        exact hh ι _ _ x1 (rs.put hn hp rfl rfl ⟨_, upd_same, RDs.mono x1 (r.append (.cons rw' .nil))⟩) (by simp only [RD])
      · exact hh.elim
    · exact hh.elim
  · exact hh.elim
theorem t_extend : MtR X "list.extend" (rMt X.K dExtend) := by
  intro pins s σ H x xs v us Q I rx rxs h
  obtain ⟨ι, S, d, ds, rs, rd, rds, hh⟩ := h
  unfold dExtend at hh
  split at hh
  · rename_i n m
    obtain ⟨w, rfl, rw'⟩ := one_rd rds
    split at hh
    · rename_i ys zs hn hm
      split at hh
      · rename_i hz
        obtain ⟨p, vs, rfl, hp, hH, r⟩ := rs.lst hn rd
        obtain ⟨p2, us2, rfl, hp2, hH2, r2⟩ := rs.lst hm rw'
        have nt : ∀ zs, HO.lst vs ≠ .tup zs := fun _ z => by cases z
        have nf : ∀ b u, HO.lst vs ≠ .frz b u := fun _ _ z => by cases z
        refine mt_extend pins s σ H _ _ v us Q I rx rxs ⟨p, p2, vs, us2, rfl, rfl, hH, hH2, by rw [r.length, r2.length]; exact hz, ?_⟩
        have x1 : Ext X.K ι H ι (upd H p (.lst (vs ++ us2))) := .put hH nt nf trivial
        exact hh ι _ _ x1 (rs.put hn hp rfl rfl ⟨_, upd_same, RDs.mono x1 (r.append r2)⟩) (by simp only [RD])
      · exact hh.elim
    · exact hh.elim
  · exact hh.elim
theorem t_pop : MtR X "list.pop" (rMt X.K dPop) := by
  intro pins s σ H x xs v us Q I rx rxs h
  obtain ⟨ι, S, d, ds, rs, rd, rds, hh⟩ := h
  unfold dPop at hh
  split at hh
  · rename_i n
    simp only [RDs] at rds
    subst rds
    split at hh
    · rename_i ys hn
      cases ey : ys[ys.length - 1]? with
      | none => rw [ey] at hh; exact hh.elim
      | some y =>
        rw [ey] at hh
        obtain ⟨p, vs, rfl, hp, hH, r⟩ := rs.lst hn rd
        obtain ⟨w, ew, rw'⟩ := r.get ey
        have nt : ∀ zs, HO.lst vs ≠ .tup zs := fun _ z => by cases z
        have nf : ∀ b u, HO.lst vs ≠ .frz b u := fun _ _ z => by cases z
        refine mt_pop pins s σ H _ _ v us Q I rx rxs ⟨p, vs, w, rfl, rfl, hH, by rw [r.length]; exact ew, ?_⟩
        have x1 : Ext X.K ι H ι (upd H p (.lst vs.dropLast)) := .put hH nt nf trivial
        exact hh ι _ _ x1 (rs.put hn hp rfl rfl ⟨_, upd_same, RDs.mono x1 r.dropLast⟩) (RD.mono x1 rw')
    · exact hh.elim
  · exact hh.elim
theorem RDs.of_strs {K : PySem.W.Frag} {ι : List Addr} {H : Hp} : ∀ ys : List Str, RDs K ι H (ys.map D.str) (ys.map V.str)
  | [] => .nil
  | y :: ys => .cons (by simp only [RD]) (RDs.of_strs ys)
theorem t_join : MtR X "str.join" (rMt X.K dJoin) := by
  intro pins s σ H x xs v us Q I rx rxs h
  obtain ⟨ι, S, d, ds, rs, rd, rds, hh⟩ := h
  unfold dJoin at hh
  split at hh
  · rename_i a y
    obtain ⟨w, rfl, rw'⟩ := one_rd rds
    simp only [RD] at rd
    subst rd
    cases e1 : itemsD y S with
    | none => rw [e1] at hh; exact hh.elim
    | some its =>
      rw [e1] at hh
      simp only [Option.bind_some] at hh
      cases e2 : strsD its with
      | none => rw [e2] at hh; exact hh.elim
      | some ys =>
        rw [e2] at hh
        simp only [Option.bind_some] at hh
        split at hh
        · rename_i hz
          obtain ⟨p, vs, rfl, q, t⟩ := items_rd rs e1 rw'
          have := strsD_rd e2 t
          subst this
          exact mt_join pins s σ H _ _ v us Q I rx rxs ⟨a, p, ys, rfl, rfl, q, hz, PV.ret hh rs (by simp only [RD])⟩
        · exact hh.elim
  · exact hh.elim
theorem t_split : MtR X "str.split" (rMt X.K dSplit) := by
  intro pins s σ H x xs v us Q I rx rxs h
  obtain ⟨ι, S, d, ds, rs, rd, rds, hh⟩ := h
  unfold dSplit at hh
  split at hh
  · rename_i a b
    obtain ⟨w, rfl, rw'⟩ := one_rd rds
    simp only [RD] at rd rw'
    subst rd; subst rw'
    split at hh
    · rename_i hz
      simp only [Bool.and_eq_true, bne_iff_ne, ne_eq, decide_eq_true_eq] at hz
      exact mt_split pins s σ H _ _ v us Q I rx rxs ⟨a, b, rfl, rfl, by simpa using hz.1, hz.2, new_lst rs (RDs.of_strs _) hh⟩
    · exact hh.elim
  · rename_i a
    simp only [RDs] at rds
    subst rds
    simp only [RD] at rd
    subst rd
    split at hh
    · rename_i hz
      exact mt_words pins s σ H _ _ v us Q I rx rxs ⟨a, rfl, rfl, hz, new_lst rs (RDs.of_strs _) hh⟩
    · exact hh.elim
  · exact hh.elim
theorem t_rstrip : MtR X "str.rstrip" (rMt X.K dRstrip) := by
  intro pins s σ H x xs v us Q I rx rxs h
  obtain ⟨ι, S, d, ds, rs, rd, rds, hh⟩ := h
  unfold dRstrip at hh
  split at hh
  · rename_i a b
    obtain ⟨w, rfl, rw'⟩ := one_rd rds
    simp only [RD] at rd rw'
    subst rd; subst rw'
    split at hh
    · exact mt_rstripChars pins s σ H _ _ v us Q I rx rxs ⟨a, b, rfl, rfl, by assumption, PV.ret hh rs (by simp only [RD])⟩
    · exact hh.elim
  · exact hh.elim
theorem t_count : MtR X "str.count" (rMt X.K dCount) := by
  intro pins s σ H x xs v us Q I rx rxs h
  obtain ⟨ι, S, d, ds, rs, rd, rds, hh⟩ := h
  unfold dCount at hh
  split at hh
  · rename_i a b
    obtain ⟨w, rfl, rw'⟩ := one_rd rds
    simp only [RD] at rd rw'
    subst rd; subst rw'
    exact mt_count pins s σ H _ _ v us Q I rx rxs ⟨a, b, rfl, rfl, PV.ret hh rs (by simp only [RD])⟩
  · exact hh.elim
theorem t_find : MtR X "str.find" (rMt X.K dFind) := by
  intro pins s σ H x xs v us Q I rx rxs h
  obtain ⟨ι, S, d, ds, rs, rd, rds, hh⟩ := h
  unfold dFind at hh
  split at hh
  · rename_i a b
    obtain ⟨w, rfl, rw'⟩ := one_rd rds
    simp only [RD] at rd rw'
    subst rd; subst rw'
    exact mt_find pins s σ H _ _ v us Q I rx rxs ⟨a, b, rfl, rfl, PV.ret hh rs (by simp only [RD])⟩
  · rename_i a b i
    obtain ⟨w, w2, rfl, r1, r2⟩ := two_rd rds
    simp only [RD] at rd r1 r2
    subst rd; subst r1; subst r2
    exact mt_find3 pins s σ H _ _ v us Q I rx rxs ⟨a, b, i, rfl, rfl, PV.ret hh rs (by simp only [RD])⟩
  · exact hh.elim
theorem t_index : MtR X "str.index" (rMt X.K dIndex) := by
  intro pins s σ H x xs v us Q I rx rxs h
  obtain ⟨ι, S, d, ds, rs, rd, rds, hh⟩ := h
  unfold dIndex at hh
  split at hh
  · rename_i a b
    obtain ⟨w, rfl, rw'⟩ := one_rd rds
    simp only [RD] at rd rw'
    subst rd; subst rw'
    cases e : Txt.index0 a b with
    | none => rw [e] at hh; exact hh.elim
    | some k =>
      rw [e] at hh
      obtain ⟨t, rfl⟩ := rx
      cases rxs with
      | cons r1 rr =>
        cases rr
        obtain ⟨u, rfl⟩ := r1
        cases q : Builtin.Str.occurrences a b 0 a.length 1 with
        | nil => unfold Txt.index0 at e; rw [q] at e; cases e
        | cons k' rest =>
          have ek : k' = k := by unfold Txt.index0 at e; rw [q] at e; exact Option.some.inj e
          subst ek
          exact PySem.SC.index q ⟨.int (k' : Nat), H, I.tok _, ⟨_, rfl⟩, PV.ret hh rs (by simp only [RD])⟩
  · exact hh.elim
end

/-! ### dict displays with texts as keys -/
def disp (kvs : List (Str × D)) : List (Key × D) := kvs.foldl (fun acc kv => putD acc (.inr kv.1) kv.2) []
/-- {"k": v, ..}: the new dict stands empty while the values are made -/
def mDct (ks : List Str) (ms : AM) : EM := fun ρ S => (ms ρ (S ++ [.dct []])).bind fun xs S1 => match S1[S.length]? with
  | some (.dct []) => if (decide (ks.length ≤ 15) && decide (xs.length = ks.length)) = true then .ok (.ref S.length) (S1.set S.length (.dct (disp (ks.zip xs)))) else .stk
  | _ => .stk
section
variable {X : Cx} {W : WX} {pos : Pos}
inductive SKV (X : Cx) (W : WX) (pos : Pos) : List Str → List (Option Expr) → List Expr → AM → Prop where
  | nil : SKV X W pos [] [] [] aNil
  | cons {k : Str} {j : Nat} {p : Pos} {ks : List Str} {es : List (Option Expr)} {v : Expr} {vs : List Expr} {m : EM} {ms : AM} (hv : SE X W v m) (hr : SKV X W pos ks es vs ms) : SKV X W pos (k :: ks) (some (.Constant (.str k) j p) :: es) (v :: vs) (aCons m ms)
theorem SKV.pps {ks : List Str} {es : List (Option Expr)} {vs : List Expr} {ms : AM} (h : SKV X W pos ks es vs ms) : ∃ trs, PPs X pos es vs trs ∧ es.all (·.isSome) = true ∧ es.length = vs.length ∧ es.length = ks.length ∧
    ∀ σ H (Q : List (V × V) → Hp → Prop), tMA X.K W ms σ H (fun us H1 => us.length = ks.length → Q ((ks.map V.str).zip us) H1) → tPairs trs σ H Q := by
  induction h with
  | nil => exact ⟨[], pps_nil, rfl, rfl, rfl, fun σ H Q h => by
      obtain ⟨ι, ρ, S, re, rs, h⟩ := h
      exact (PR.ret h rs RDs.nil) rfl⟩
  | @cons k j p ks es v vs m ms hv hr ih =>
    obtain ⟨trs, h1, h2, h3, h4, h5⟩ := ih
    refine ⟨_, pps_cons pe_str hv h1, by simp [h2], by simp [h3], by simp [h4], fun σ H Q h => ?_⟩
    obtain ⟨ι, ρ, S, re, rs, h⟩ := h
    show tM X.K W m σ H fun y H2 => tPairs trs σ H2 fun ps H3 => Q ((V.str k, y) :: ps) H3
    refine ⟨ι, ρ, S, re, rs, PR.imp (fun v H1 hh => ?_) (PR.bind (rel := rD X.K) h)⟩
    obtain ⟨ι1, d, S1, x1, rs1, r1, h1⟩ := hh
    refine h5 σ H1 _ ⟨ι1, ρ, S1, re.mono x1, rs1, PR.imp (fun u H2 hh => ?_) (PR.bind (rel := rDs X.K) h1)⟩
    obtain ⟨ι2, d2, S2, x2, rs2, r2, h2⟩ := hh
    intro hl
    have q := h2.ret rs2 (v := v :: u) (.cons (RD.mono x2 r1) r2)
    exact q (by simp [hl])
theorem RKs.fold {K : PySem.W.Frag} {ι : List Addr} {H : Hp} : ∀ {ks : List Str} {ds : List D} {vs : List V} {acc : List (Key × D)} {accV : List (Key × V)}, RKs K ι H acc accV → RDs K ι H ds vs →
    RKs K ι H ((ks.zip ds).foldl (fun acc kv => putD acc (.inr kv.1) kv.2) acc) ((ks.zip vs).foldl (fun acc kv => putK acc (Sum.inr kv.1 : Key) kv.2) accV)
  | [], ds, vs, acc, accV, h, r => by simpa using h
  | k :: ks, [], vs, acc, accV, h, r => by simp only [RDs] at r; subst r; simpa using h
  | k :: ks, d :: ds, vs, acc, accV, h, r => by
    simp only [RDs] at r
    obtain ⟨v, r', rfl, a, t⟩ := r
    simp only [List.zip_cons_cons, List.foldl_cons]
    exact RKs.fold (RKs.put (.inr k) a h) t
theorem se_dct {ks : List Str} {es : List (Option Expr)} {vs : List Expr} {ms : AM} (h : SKV X W pos ks es vs ms) (h0 : es ≠ []) (h15 : es.length ≤ 15) : SE X W (.Dict es vs pos) (mDct ks ms) := by
  obtain ⟨trs, hp, ha, hl, hk, ht⟩ := h.pps
  refine PE.imp (pe_disp hp ha hl h0 h15) fun σ H Q hh => ?_
  obtain ⟨ι, ρ, S, re, rs, hh⟩ := hh
  intro p hp0
  have x0 : Ext X.K ι H (ι ++ [p]) (upd H p (.dK [])) := .push hp0
  have rs0 : RS X.K (ι ++ [p]) (upd H p (.dK [])) (S ++ [.dct []]) := rs.push hp0 rfl ⟨[], upd_same, by simp only [RKs]⟩
  refine ht σ _ _ ⟨ι ++ [p], ρ, _, re.mono x0, rs0, PR.imp (fun us H1 hh => ?_) (PR.bind (rel := rDs X.K) (hh.mono x0))⟩
  obtain ⟨ι1, ds, S1, x1, rs1, r1, h1⟩ := hh
  intro hlen
  split at h1
  · rename_i en
    split at h1
    · rename_i hc
      simp only [Bool.and_eq_true, decide_eq_true_eq] at hc
      have hpi : ι1[S.length]? = some p := x1.ix (by rw [← rs.len]; simp)
      obtain ⟨p', vs', e', hp', hH, rk⟩ := rs1.dct (v := .ref p) en (by simp only [RD]; exact ⟨p, rfl, hpi⟩)
      cases e'
      simp only [RKs] at rk
      subst rk
      refine ⟨hH, (ks.zip us).map fun kv => ((Sum.inr kv.1 : Key), kv.2), ?_, by simp; omega, ?_⟩
      · rw [List.map_map, List.zip_map_left]
        rfl
      · have nt : ∀ zs, HO.dK [] ≠ .tup zs := fun _ z => by cases z
        have nf : ∀ b u, HO.dK [] ≠ .frz b u := fun _ _ z => by cases z
        have x2 : ∀ o, Ext X.K ι1 H1 ι1 (upd H1 p o) := fun o => .put hH nt nf trivial
        refine h1 ι1 _ _ (x2 _) (rs1.put en hpi rfl rfl ⟨_, upd_same, RKs.mono (x2 _) ?_⟩) (by simp only [RD]; exact ⟨p, rfl, hpi⟩)
        have := RKs.fold (ks := ks) (acc := []) (accV := []) (K := X.K) (ι := ι1) (H := H1) (by simp only [RKs]) r1
        unfold disp mergeK
        rw [List.foldl_map]
        exact this
    · exact h1.elim
  · exact h1.elim
/-- {} -/
def mDct0 : EM := fun _ S => .ok (.ref S.length) (S ++ [.dct []])
theorem se_dct0 : SE X W (.Dict [] [] pos) mDct0 := PE.imp pe_dnewK fun σ H Q hh => by
  obtain ⟨ι, ρ, S, re, rs, hh⟩ := hh
  intro p hp0
  exact hh (ι ++ [p]) _ _ (.push hp0) (rs.push hp0 rfl ⟨[], upd_same, by simp only [RKs]⟩) (by simp only [rD, RD]; exact ⟨p, rfl, by rw [← rs.len]; simp⟩)
end
end DL

/-! the D-layer: the law's own end -/
namespace DL
open PySem L2
section
variable {P : Program} {w : World} {K : PySem.W.Frag} {mg : Str → Option Value} {k : Nat}
/-- what is tracked when the law is called: the script, where the module has not written it itself -/
def trk0 (K : PySem.W.Frag) (a : Addr) (o oS : Obj) (ns : List Int) : Hp := fun b => if b = sysModules then some (.frz oS (.own 0)) else if b = a ∧ K.lookup a = none then some (.frz o (.lst (ns.map V.int))) else none
theorem trk0_eq {a b : Addr} {o oS : Obj} {ns : List Int} {u : HO} (h : trk0 K a o oS ns b = some u) : (b = sysModules ∧ u = .frz oS (.own 0)) ∨ (b = a ∧ K.lookup a = none ∧ u = .frz o (.lst (ns.map V.int))) := by
  unfold trk0 at h
  split at h
  · rename_i c; exact .inl ⟨c, (Option.some.inj h).symm⟩
  · split at h
    · rename_i c; exact .inr ⟨c.1, c.2, (Option.some.inj h).symm⟩
    · cases h
/-- THE HEAD -/
theorem law_go {mb : Str → Option Value} {fa a : Addr} {fd : FuncData} {x : Str} {F : FM} {sh : Shared} {vs : List Value} {ns : List Int}
    (kin : K.In sh.heap) (glob : sh.heap.Ns mainGlobals mg) (blt : sh.heap.Ns builtinsNs mb) (boot : ∀ x : Str, x ≠ "__name__" → mb x = bootBuiltins x) (nolim : sh.heap.NoLimit) (nogen : sh.gens = #[]) (nsys : K.lookup sysModules = none) (mods : ∃ mm, sh.heap.Ns sysModules mm)
    (lay : sh.heap.get? a = some { cls := .type "list", data := .seq vs.toArray }) (hints : PyProof.Rows.IntsAre vs ns) (few : ns.length ≤ sizeLine) (gr : GR k callerA)
    (Fn : ∀ base : Heap, K.In base → base.Ns mainGlobals mg → FnG P w K mg base k fa fd [x] (spG K 1 F)) (bd : ∀ (t : Shared) (u : Value), BindsTo t fd ⟨[u], []⟩ [(x, u)])
    (ans : ∃ S', F [.ref 0] [.fz (ns.map D.int)] = .ok (.bl true) S') :
    codeAny (model P w) callerA (.call (.ref fa) ⟨[.ref a], []⟩) (fun r t => r = .ok (.ret (.bool true)) ∧ PySem.OldK sh.heap t.heap ∧ t.os = sh.os ∧ PyProof.Rows.AllBare t.gens) sh := by
  obtain ⟨S', ans⟩ := ans
  have rv := vals_ints hints
  have hlen := hints.length
  obtain ⟨mm, oS, esS, epS, getS, dataS, _⟩ := mods
  have aS : a ≠ sysModules := fun z => by
    rw [z, getS] at lay
    cases lay
    cases dataS
  obtain ⟨H, eH⟩ : ∃ H, H = trk0 K a { cls := .type "list", data := .seq vs.toArray } oS ns := ⟨_, rfl⟩
  have only : ∀ {b u}, H b = some u → (b = sysModules ∧ u = .frz oS (.own 0)) ∨ (b = a ∧ K.lookup a = none ∧ u = .frz { cls := .type "list", data := .seq vs.toArray } (.lst (ns.map V.int))) := fun h => trk0_eq (by rw [← eH]; exact h)
  have hok : HOk P w H sh.heap := fun b u h => by
    rcases only h with ⟨rfl, rfl⟩ | ⟨rfl, _, rfl⟩
    · exact ⟨getS, oS, getS⟩
    · exact ⟨lay, by rw [List.length_map]; exact few, vs, _, rv, lay⟩
  have noDict : ∀ {b : Addr} {o : Obj} {es : Array DictEntry} {ep : Nat}, b ≠ sysModules → sh.heap.get? b = some o → o.data = .dict es ep → H b = none := fun {b o es ep} nb e d => by
    cases q : H b with
    | none => rfl
    | some u =>
      rcases only q with ⟨z, _⟩ | ⟨rfl, _, _⟩
      · exact (nb z).elim
      · rw [lay] at e; cases e; cases d
  have nsK : ∀ {b : Addr} {m : Str → Option Value}, b ≠ sysModules → sh.heap.Ns b m → (hidT sh.heap H).Ns b m := fun {b m} nb ⟨o, es, ep, e, d, r⟩ => ⟨o, es, ep, hidT_get e (noDict nb e d), d, r⟩
  have kinB : K.In (hidT sh.heap H) := fun b o e => hidT_get (kin b o e) (by
    cases q : H b with
    | none => rfl
    | some u =>
      rcases only q with ⟨rfl, _⟩ | ⟨rfl, n, _⟩
      · rw [nsys] at e; cases e
      · rw [n] at e; cases e)
  have hM : Mod K mg (hidT sh.heap H) := ⟨kinB, nsK (by decide) glob, ⟨mb, nsK (by decide) blt, boot⟩, let ⟨mc, h1, h2⟩ := nolim; ⟨mc, nsK (by decide) h1, h2⟩⟩
  have e0 : Env0 P w K mg (hidT sh.heap H) callerA [] sh H := ⟨rfl, hM, fun b o e => of_hidT e, Nat.le_of_eq (hidT_size _ _), trivial, fun b hb => (List.not_mem_nil (show b ∈ ([] : List Addr) from hb)).elim, hok, .of_eq nogen⟩
  have sq : (∃ o, H a = some (.frz o (.lst (ns.map V.int)))) ∨ ∀ H', SqL K H' a (ns.map V.int) := by
    cases q : K.lookup a with
    | none => exact .inl ⟨_, by rw [eH]; unfold trk0; rw [if_neg aS, if_pos ⟨rfl, q⟩]⟩
    | some o =>
      have e := kin a o q
      rw [lay] at e; cases e
      exact .inr fun H' => .inr ⟨_, vs.toArray, _, q, rfl, rfl, rfl, by rw [List.size_toArray, hlen]; exact few, by simpa using rv⟩
  have rs : RS K [a] H [.fz (ns.map D.int)] := by
    refine ⟨rfl, fun n c h => ?_, fun n m p c c' _ _ h3 _ m1 _ => ?_, ⟨oS, 0, by rw [eH]; unfold trk0; rw [if_pos rfl]⟩⟩
    · match n, h with
      | 0, h => cases h; exact ⟨a, rfl, ns.map V.int, sq, RDs.of_ints ns⟩
    · match n, h3 with
      | 0, h3 => cases h3; cases m1
  have sp : spG K 1 F [.ref a] H (fun v _ => v = .bl true) fun _ _ _ => False :=
    ⟨[a], [.fz (ns.map D.int)], [.ref 0], rs, .cons (by simp only [RD]; exact ⟨a, rfl, rfl⟩) .nil, rfl, by
      rw [ans]
      intro ι' v H' _ _ r
      simpa only [rD, RD] using r⟩
  refine codeAny_mono ((Fn _ kinB (nsK (by decide) glob)).go callerA [] sh H ⟨[.ref a], []⟩ [.ref a] [.ref a] _ _ gr e0 (bd sh (.ref a)) (.cons rfl .nil) sp) fun r t h => ?_
  match r, h with
  | .error e, h => obtain ⟨_, _, _, _, _, _, _, _, _, _, _, _, z⟩ := h; exact z.elim
  | .ok .next, h => exact False.elim h
  | .ok .brk, h => exact False.elim h
  | .ok .cont, h => exact False.elim h
  | .ok (.ret u), h =>
    obtain ⟨v, H', os, bare, un, hok', r', q⟩ := h
    have q' : v = .bl true := q
    subst q'
    cases (show u = Value.bool true from r')
    refine ⟨rfl, PySem.OldK.of_keep fun b o e => ?_, os, bare⟩
    cases q : H b with
    | none => exact un.keep b o e q (fun z => (List.not_mem_nil (show b ∈ ([] : List Addr) from z)).elim) List.not_mem_nil
    | some u =>
      rcases only q with ⟨rfl, rfl⟩ | ⟨rfl, _, rfl⟩
      · obtain ⟨e1, _⟩ := hok' _ _ (un.frzs _ _ _ q)
        rw [getS] at e; cases e
        exact e1
      · obtain ⟨e1, _⟩ := hok' b _ (un.frzs b _ _ q)
        rw [lay] at e; cases e
        exact e1
end
/-- the goal that k_head leaves -/
theorem law_end {l : PySem.W.OpenLaw} {k : Nat} {q : Program} {loose : List Str} {XP : (Str → Option Value) → Heap → Prop} {YP : World → Heap → Prop} {d : DefRec} {K : Params → PySem.W.Frag} {x : Str}
    (hn : l.most = some 63) (hdf : d.params.defaults = []) (hk : 1 + claimMargin + 3 * k + 5 < recursionLimit) (hk2 : 4 + 16 * k + 200 < cLine)
    (hY : ∀ (w : World) (h : Heap), YP w h → (K w.params).In h) (himp : PyProof.Rows.importsNone q = true) (nsys : ∀ w : World, (K w.params).lookup sysModules = none)
    (F : ∀ (w : World) (mg : Str → Option Value) (fa : Addr) (h : Heap), (K w.params).In h → h.Ns mainGlobals mg → mg d.name = some (.ref fa) →
      ∃ (fd : FuncData) (G : FM), (∀ (s : Shared) (u : Value), BindsTo s fd ⟨[u], []⟩ [(x, u)]) ∧
        (∀ ns : List Int, ns.length ≤ 63 → ∃ S', G [.ref 0] [.fz (ns.map D.int)] = .ok (.bl true) S') ∧
        ∀ base : Heap, (K w.params).In base → base.Ns mainGlobals mg → FnG l.prog w (K w.params) mg base k fa fd [x] (spG (K w.params) 1 G)) :
    PySem.W.WalkO q loose XP YP l.row.toRowW d [] (fun f vs => PySem.call f vs) := by
  refine Att.attach_call hn hdf fun w s₀ s₁ mg mb fa o pm cd doc a vs ns G Y ho hd hcd hmg hobj hints hlen hg => ?_
  obtain ⟨fd, G', hb, ha, hF⟩ := F w mg fa _ (hY w _ Y) G.T.g hmg
  exact law_go (hY w _ Y) G.T.g G.T.b G.T.builtins G.T.nolimit hg (nsys w) (let ⟨mm, h, _⟩ := (G.T.seer himp).mods; ⟨mm, h⟩) hobj hints (Nat.le_trans hlen (by decide)) ⟨⟨rfl, hk, hk2⟩, rfl⟩ hF hb (ha ns hlen)
end DL

/-! the D-layer: more of the language -/
namespace DL
open PySem L2
theorem GR.u65 {k : Nat} {A : Around} (r : GR k A) : A.units + 65 < cLine := by have := r.room.un; omega

/-! ### xs[::-1] -/
/-- a text turned round -/
def revS (x : Str) : Str := ⟨x.cps.toList.reverse.toArray⟩
theorem revS_length (x : Str) : (revS x).length = x.length := by
  show (x.cps.toList.reverse.toArray).size = x.cps.size
  simp
theorem back_places (n : Nat) : Builtin.Slice.slicePlaces ((n : Int) - 1) (-1) (-1) = n := by
  unfold Builtin.Slice.slicePlaces
  have h1 : ¬ ((-1 : Int) > 0) := by decide
  by_cases c : (n : Int) - 1 > -1
  · have e : ((n : Int) - 1 - -1 - 1) / (- -1) + 1 = (n : Int) := by
      rw [show (- -1 : Int) = 1 by decide, Int.ediv_one]
      omega
    simp only [h1, if_false, c, if_true, e, Int.toNat_natCast]
  · have e : n = 0 := by omega
    subst e
    simp
theorem fm_congr {α β : Type} {f g : α → Option β} : ∀ {l : List α}, (∀ x ∈ l, f x = g x) → l.filterMap f = l.filterMap g
  | [], _ => rfl
  | x :: l, h => by
    rw [List.filterMap_cons, List.filterMap_cons, h x (List.mem_cons_self), fm_congr fun y hy => h y (List.mem_cons_of_mem _ hy)]
theorem back_pick (xs : Array Value) : ((List.range xs.size).filterMap fun (m : Nat) => xs[((xs.size : Int) - 1 + (m : Int) * -1).toNat]?).toArray = xs.toList.reverse.toArray := by
  have e : (List.range xs.size).filterMap (fun (m : Nat) => xs[((xs.size : Int) - 1 + (m : Int) * -1).toNat]?) = ((List.range xs.size).map fun k => xs.size - 1 - k).filterMap (xs[·]?) := by
    rw [List.filterMap_map]
    refine fm_congr fun m hm => ?_
    have := List.mem_range.mp hm
    show xs[((xs.size : Int) - 1 + (m : Int) * -1).toNat]? = xs[xs.size - 1 - m]?
    congr 1
    omega
  rw [e, PySem.W.krv_range, List.filterMap_reverse, PySem.W.krv_all]
section
variable {prog : Program} {w : World} {A : Around} {E : Value → Shared → Prop} {s : Shared}
open PyProof.Rows HT in
theorem item_back {t sl : Addr} {items : Array Value} {vs : Value} {Q : Value → Shared → Prop} (ht : IsTup s.heap t items) (hs : s.heap.IsSliceOf sl .none .none vs) (ps : IsPart vs (some (-1)))
    (h : Q (.ref s.heap.objs.size) { s with heap := s.heap.push { cls := .type "tuple", data := .seq items.toList.reverse.toArray } }) (hsz : items.size ≤ sizeLine) : wpAny (model prog w) A (getItem (.ref t) (.ref sl)) Q E s := by
  have fits : sizeOk (.seq items.toList.reverse.toArray) := by
    show items.toList.reverse.toArray.size ≤ sizeLine
    simpa using hsz
  obtain ⟨os, hos, hcs, hds⟩ := id hs
  have hTs : s.TypeIs (.ref sl) "slice" := ⟨os, hos, hcs⟩
  unfold getItem
  try with_reducible refine wpAny_holding ?_
  first | refine wpAny_bind (wpAny_pure ?_) | skip
  refine wpAny_bind (wpAny_sequenceKey ht.typeIs (by decide) (wpAny_bind (wpAny_callSpecial?_slot (name := Str.ofString "__getitem__") ht.typeIs PyProof.Rows.slot_tuple_getitem (wpAny_call_entry PyProof.Rows.slot_tuple_getitem ht.typeIs entry_tuple_getitem ?_ (args_tuple_getitem _ _)))))
  show wpAny _ _ (Builtin.Tuple.tupleItemsOf (.ref t) >>= _) _ _ s
  refine wpAny_bind (tupleItemsOf_ ht (wpAny_bind (wpAny_typeOf hTs ?_)))
  rw [if_pos (by decide)]
  refine wpAny_bind ?_
  have cut : ∀ {B : Around} {F : Value → Shared → Prop} {R : Int × Int × Nat → Shared → Prop} {n : Nat}, R ((n : Int) - 1, -1, n) s → wpAny (model prog w) B (Builtin.Slice.sliceApplied (.ref sl) (pure (n : Int))) R F s := fun {B F R n} q => by
    unfold Builtin.Slice.sliceApplied Builtin.Slice.sliceFields
    refine wpAny_bind (wpAny_bind (wpAny_field hos hds (x := .none) rfl (wpAny_bind (wpAny_field hos hds (x := .none) rfl (wpAny_bind (wpAny_field hos hds (x := vs) rfl (wpAny_pure ?_)))))))
    refine wpAny_bind (slicePart_ ps ?_)
    show wpAny _ _ (if ((-1 : Int) == 0) = true then _ else _) _ _ s
    rw [if_neg (by decide)]
    refine wpAny_bind (slicePart_none (wpAny_bind (slicePart_none (wpAny_bind (wpAny_pure ?_)))))
    show wpAny _ _ (pure ((n : Int) - 1, (-1 : Int), Builtin.Slice.slicePlaces ((n : Int) - 1) (-1) (-1))) _ _ s
    rw [back_places]
    exact wpAny_pure q
  refine cut ?_
  have hno : ¬ ((((items.size : Int) - 1) == 0 && (-1 : Int) == 1 && (items.size == items.size)) = true) := by
    intro q
    rw [Bool.and_eq_true, Bool.and_eq_true] at q
    exact absurd q.1.2 (by decide)
  show wpAny _ _ (if (((items.size : Int) - 1) == 0 && (-1 : Int) == 1 && (items.size == items.size)) = true then _ else _) _ _ s
  rw [if_neg hno, back_pick]
  first
    | exact wpAny_bind (m := Builtin.Tuple.tupleExact _) (wpAny_newObj_type (wpAny_pure ⟨_, rfl, wpAny_pure h⟩) fits)
    | exact wpAny_bind (m := Builtin.Tuple.tupleExact _) (wpAny_newObj_type (wpAny_bind (wpAny_pure (wpAny_pure ⟨_, rfl, wpAny_pure h⟩))) fits)
    | exact wpAny_bind (wpAny_bind (m := Builtin.Tuple.tupleExact _) (wpAny_newObj_type (wpAny_pure (wpAny_pure ⟨_, rfl, wpAny_pure h⟩)) fits))
    | exact wpAny_bind (wpAny_bind (m := Builtin.Tuple.tupleExact _) (wpAny_newObj_type (wpAny_pure ⟨_, rfl, wpAny_pure h⟩) fits))
end
theorem str_back (x : Str) : (⟨((Builtin.Str.strSliceIndices none none (-1) x.length).filterMap (x.cps[·]?)).toArray⟩ : Str) = revS x := by
  have e : Builtin.Str.strSliceIndices none none (-1) x.length = (List.range x.length).map fun k => x.length - 1 - k := by
    rw [← PySem.W.krv_sliceRange]
    rfl
  rw [e, PySem.W.krv_range]
  have e2 : (List.range x.length).reverse.filterMap (x.cps[·]?) = x.cps.toList.reverse := by
    rw [List.filterMap_reverse]
    congr 1
    exact PySem.W.krv_all x.cps
  rw [e2]
  rfl
/-- what x[::-1] says: of a list a new list, of a tuple a new tuple, of a text a text -/
def tRevA (K : PySem.W.Frag) (te : TE) : TE := fun σ H Q => te σ H fun x H1 => (∃ a xs, x = .ref a ∧ SqT K H1 a xs ∧ ∀ p, H1 p = none → Q (.ref p) (upd H1 p (.tup xs.reverse))) ∨ ∃ z, x = .str z ∧ z.length ≤ sizeLine ∧ Q (.str (revS z)) H1
open PySem.Spec PyProof.Rows in
theorem pe_revA {X : Cx} {e : Expr} {te : TE} {k : Nat} {p1 p2 p3 pos : Pos} (he : PE X e te) : PE X (.Subscript e (.Slice none none (some (.UnaryOp .USub (.Constant (.int 1) k p1) p2)) p3) pos) (tRevA X.K te) := by
  refine ⟨fun pins s σ H Q I h => ?_⟩
  refine Subscript_ (thn (he.run pins s σ H _ I h) fun v s1 ⟨x, H1, I1, r1, q1⟩ => ?_)
  have hst : PO X (some (.UnaryOp .USub (.Constant (.int 1) k p1) p2)) (tPart (tUn (rU fun i => .int (-i)) (tC (.int 1)))) := po_some (pe_un un_neg pe_int)
  refine wpAny_Slice (thn (po_none.run pins s1 σ H1 (fun o H2 => o = none ∧ H2 = H1) I1 ⟨rfl, rfl⟩) fun vl s2 ⟨l, H2, I2, pl, el, e2⟩ => thn (po_none.run pins s2 σ H2 (fun o H3 => o = none ∧ H3 = H2) I2 ⟨rfl, rfl⟩) fun vu s3 ⟨u, H3, I3, pu, eu, e3⟩ =>
    thn (hst.run pins s3 σ H3 (fun o H4 => o = some (-1) ∧ H4 = H3) I3 ⟨1, rfl, -1, rfl, rfl, rfl⟩) fun vs s4 ⟨o, H4, I4, ps, eo, e4⟩ => ?_)
  subst el e2 eu e3 eo e4
  cases pl
  cases pu
  have I5 : Inv X pins σ H4 { s4 with heap := s4.heap.push { cls := .type "slice", data := .fields #[.none, .none, vs] } } := I4.kept (t' := s4.toks) fun b ob q => Heap.get?_push_of_some _ q
  rcases q1 with ⟨a, xs, ex, hx, q⟩ | ⟨z, ex, hz, q⟩
  · subst ex
    cases r1
    obtain ⟨its, r, ht, hz⟩ := I5.tuple hx
    have hlen := r.length
    show wpAny (model X.prog X.w) X.A (subscriptTail e (.Slice none none (some (.UnaryOp .USub (.Constant (.int 1) k p1) p2)) p3) (.ref a) (.ref s4.heap.objs.size)) (EP X pins σ Q) X.xe { s4 with heap := s4.heap.push { cls := .type "slice", data := .fields #[.none, .none, vs] } }
    refine tail_any (ops := [.ref a, .ref s4.heap.objs.size]) ht.typeIs (PyProof.Rows.slot_tuple_getitem.lookup) ?_ (by with_unfolding_all rfl)
    refine item_back ht (Heap.IsSliceOf.new _ .none .none vs) ps ?_ (by rw [List.size_toArray]; omega)
    refine ⟨.ref _, _, I5.laid (t' := s4.toks) (o := .tup xs.reverse) (fun b ob q => Heap.get?_push_of_some _ q) (Nat.le_refl _) ?_, rfl, q _ (I5.hok.fresh (Nat.le_refl _))⟩
    exact ⟨by rw [List.length_reverse]; exact hz, _, r.reverse, IsTup.new _ _⟩
  · subst ex
    obtain ⟨t, rfl⟩ := r1
    show wpAny (model X.prog X.w) X.A (subscriptTail e (.Slice none none (some (.UnaryOp .USub (.Constant (.int 1) k p1) p2)) p3) (.str z t) (.ref s4.heap.objs.size)) (EP X pins σ Q) X.xe { s4 with heap := s4.heap.push { cls := .type "slice", data := .fields #[.none, .none, vs] } }
    refine tail_any (ops := [.str z t, .ref s4.heap.objs.size]) (typeIs_str _ _ _) F.slot_str_getitem.lookup ?_ (by with_unfolding_all rfl)
    obtain ⟨st, rfl, est⟩ : ∃ st : Option (Int × Tok), vs = partValue st ∧ st.map (·.1) = some (-1) := by
      cases ps with
      | int i t => exact ⟨some (-1, t), rfl, rfl⟩
    refine wpAny_getItem_str_slice (l := none) (u := none) (st := st) ⟨_, Heap.get?_push_size _ rfl, rfl, rfl⟩ (by rw [est]; rfl) ?_
    have es : sliceMade z t none none st = .str (revS z) := by
      unfold sliceMade
      rw [est]
      rw [if_neg (by simp)]
      unfold slicePicked
      rw [est]
      exact congrArg _ (str_back z)
    rw [es]
    exact ⟨by rw [revS_length]; exact hz, .str _, H4, I5.tok _, ⟨_, rfl⟩, q⟩
def mRev (m : EM) : EM := fun ρ S => (m ρ S).bind fun d S1 => match d with
  | .ref n => match seqAt S1 n with
    | some xs => .ok (.ref S1.length) (S1 ++ [.lst xs.reverse])
    | none => .stk
  | .tup xs => .ok (.tup xs.reverse) S1
  | .str x => if x.length ≤ sizeLine then .ok (.str (revS x)) S1 else .stk
  | _ => .stk
theorem RDs.reverse {K : PySem.W.Frag} {ι : List Addr} {H : Hp} : ∀ {ds : List D} {vs : List V}, RDs K ι H ds vs → RDs K ι H ds.reverse vs.reverse
  | [], vs, r => by simp only [RDs] at r; subst r; exact .nil
  | d :: ds, vs, r => by
    simp only [RDs] at r
    obtain ⟨v, r', rfl, a, t⟩ := r
    rw [List.reverse_cons, List.reverse_cons]
    exact (RDs.reverse t).append (.cons a .nil)
section
variable {X : Cx} {W : WX} {e : Expr} {m : EM}
theorem pe_or {t t' : TE} (h : PE X e t) (h' : PE X e t') : PE X e (fun σ H Q => t σ H Q ∨ t' σ H Q) := ⟨fun pins s σ H Q I w => w.elim (h.run pins s σ H Q I) (h'.run pins s σ H Q I)⟩
theorem se_rev {k : Nat} {p1 p2 p3 pos : Pos} (he : SE X W e m) : SE X W (.Subscript e (.Slice none none (some (.UnaryOp .USub (.Constant (.int 1) k p1) p2)) p3) pos) (mRev m) := by
  refine PE.imp (pe_or (pe_revL he) (pe_revA he)) fun σ H Q h => ?_
  obtain ⟨ι, ρ, S, re, rs, h⟩ := h
  unfold mRev at h
  cases em : m ρ S with
  | stk => rw [em] at h; exact h.elim
  | ex z S' => rw [em] at h; exact .inl ⟨ι, ρ, S, re, rs, by rw [em]; exact h⟩
  | ok d S' =>
    rw [em] at h
    simp only [bind_ok] at h
    cases d with
    | ref n =>
      refine .inl ⟨ι, ρ, S, re, rs, ?_⟩
      rw [em]
      intro ι1 v H1 x1 rs1 r1
      have h1 := PR.mono x1 h
      simp only at h1
      split at h1
      · rename_i xs hx
        obtain ⟨p, vs, rfl, _, q, t⟩ := rs1.seq hx r1
        exact ⟨p, vs, rfl, q, new_lst rs1 t.reverse (PV.of (o := some _) h1)⟩
      · exact h1.elim
    | tup xs =>
      refine .inr ⟨ι, ρ, S, re, rs, ?_⟩
      rw [em]
      intro ι1 v H1 x1 rs1 r1
      have h1 := PR.mono x1 h
      simp only [rD, RD] at r1
      obtain ⟨p, vs, rfl, q, t⟩ := r1
      exact .inl ⟨p, vs, rfl, q, new_tup rs1 t.reverse (PV.of (o := some _) h1)⟩
    | str x =>
      refine .inr ⟨ι, ρ, S, re, rs, ?_⟩
      rw [em]
      intro ι1 v H1 x1 rs1 r1
      have h1 := PR.mono x1 h
      simp only [rD, RD] at r1
      subst r1
      simp only at h1
      split at h1
      · rename_i hz
        exact .inr ⟨x, rfl, hz, h1.ret rs1 (by simp only [RD])⟩
      · exact h1.elim
    | _ => exact h.elim
end

/-! ### max, min of two ints -/
def bMax : DOps := fun xs S => match xs with
  | [.int i, .int j] => some (.int (if j > i then j else i), S)
  | _ => none
def bMin : DOps := fun xs S => match xs with
  | [.int i, .int j] => some (.int (if j < i then j else i), S)
  | _ => none
section
variable {X : Cx}
theorem c_max (hc : X.calm = true) : CallR X (.builtin "max") (rOps X.K bMax) := by
  intro pins s σ H xs us Q I r h
  obtain ⟨ι, S, ds, rs, rd, hh⟩ := h
  unfold bMax at hh
  split at hh
  · rename_i i j
    obtain ⟨v, u, rfl, r1, r2⟩ := two_rd rd
    simp only [RD] at r1 r2
    subst r1; subst r2
    exact call_max2 hc pins s σ H _ us Q I r ⟨i, j, rfl, PV.ret hh rs (by simp only [RD])⟩
  · exact hh.elim
theorem c_min (hc : X.calm = true) : CallR X (.builtin "min") (rOps X.K bMin) := by
  intro pins s σ H xs us Q I r h
  obtain ⟨ι, S, ds, rs, rd, hh⟩ := h
  unfold bMin at hh
  split at hh
  · rename_i i j
    obtain ⟨v, u, rfl, r1, r2⟩ := two_rd rd
    simp only [RD] at r1 r2
    subst r1; subst r2
    exact call_min2 hc pins s σ H _ us Q I r ⟨i, j, rfl, PV.ret hh rs (by simp only [RD])⟩
  · exact hh.elim
end
end DL

/-! the D-layer: plain laws about the functions -/
namespace DL
open PySem L2

/-- the result is told, and P of it -/
def WP {α : Type} (r : R α) (P : α → Sto → Prop) : Prop := match r with
  | .ok a S => P a S
  | _ => False
section
variable {α β : Type} {r : R α} {P Q : α → Sto → Prop}
@[simp] theorem wp_ok (a : α) (S : Sto) (P : α → Sto → Prop) : WP (.ok a S) P ↔ P a S := Iff.rfl
@[simp] theorem wp_stk (P : α → Sto → Prop) : WP .stk P ↔ False := Iff.rfl
@[simp] theorem wp_bind (r : R α) (f : α → Sto → R β) (P : β → Sto → Prop) : WP (r.bind f) P ↔ WP r (fun a S => WP (f a S) P) := by cases r <;> exact Iff.rfl
theorem WP.mono (h : WP r P) (q : ∀ a S, P a S → Q a S) : WP r Q := by
  cases r with
  | ok a S => exact q _ _ h
  | _ => exact h
theorem WP.elim (h : WP r P) : ∃ a S, r = .ok a S ∧ P a S := by
  cases r with
  | ok a S => exact ⟨a, S, rfl, h⟩
  | _ => exact h.elim
theorem WP.and (h : WP r P) (q : WP r Q) : WP r (fun a S => P a S ∧ Q a S) := by
  cases r with
  | ok a S => exact ⟨h, q⟩
  | _ => exact h
end
/-- what is wanted behind a statement -/
structure Post where
  nx : Ev → Sto → Prop
  rt : D → Sto → Prop
  bk : Ev → Sto → Prop := fun _ _ => False
  ct : Ev → Sto → Prop := fun _ _ => False
  ex : Exn → Ev → Sto → Prop := fun _ _ _ => False
def WS (r : SR) (Q : Post) : Prop := match r with
  | .stk => False
  | .nx ρ S => Q.nx ρ S
  | .rt d S => Q.rt d S
  | .bk ρ S => Q.bk ρ S
  | .ct ρ S => Q.ct ρ S
  | .ex e ρ S => Q.ex e ρ S
/-- of an expression that may raise -/
def WX' {α : Type} (r : R α) (P : α → Sto → Prop) (E : Exn → Sto → Prop) : Prop := match r with
  | .stk => False
  | .ok a S => P a S
  | .ex e S => E e S
section
variable {Q Q' : Post} {ρ : Ev} {S : Sto}
@[simp] theorem ws_nx (ρ : Ev) (S : Sto) (Q : Post) : WS (.nx ρ S) Q ↔ Q.nx ρ S := Iff.rfl
@[simp] theorem ws_rt (d : D) (S : Sto) (Q : Post) : WS (.rt d S) Q ↔ Q.rt d S := Iff.rfl
@[simp] theorem ws_bk (ρ : Ev) (S : Sto) (Q : Post) : WS (.bk ρ S) Q ↔ Q.bk ρ S := Iff.rfl
@[simp] theorem ws_ct (ρ : Ev) (S : Sto) (Q : Post) : WS (.ct ρ S) Q ↔ Q.ct ρ S := Iff.rfl
theorem WS.mono {r : SR} (h : WS r Q) (n : ∀ ρ S, Q.nx ρ S → Q'.nx ρ S) (t : ∀ d S, Q.rt d S → Q'.rt d S) (b : ∀ ρ S, Q.bk ρ S → Q'.bk ρ S) (c : ∀ ρ S, Q.ct ρ S → Q'.ct ρ S) (e : ∀ x ρ S, Q.ex x ρ S → Q'.ex x ρ S) : WS r Q' := by
  cases r with
  | stk => exact h
  | nx ρ S => exact n _ _ h
  | rt d S => exact t _ _ h
  | bk ρ S => exact b _ _ h
  | ct ρ S => exact c _ _ h
  | ex x ρ S => exact e _ _ _ h
/-- an expression in a statement -/
theorem ws_of {α : Type} {r : R α} {f : α → Sto → SR} (h : WP r fun a S1 => WS (f a S1) Q) : WS (r.bindS ρ f) Q := by
  obtain ⟨a, S1, e, h⟩ := h.elim
  rw [e]; exact h
theorem ws_seq {a b : SM} (h : WS (a ρ S) { Q with nx := fun ρ' S' => WS (b ρ' S') Q }) : WS (sSeq a b ρ S) Q := by
  unfold sSeq
  cases e : a ρ S with
  | stk => rw [e] at h; exact h
  | nx ρ' S' => rw [e] at h; exact h
  | rt d S' => rw [e] at h; exact h
  | bk ρ' S' => rw [e] at h; exact h
  | ct ρ' S' => rw [e] at h; exact h
  | ex x ρ' S' => rw [e] at h; exact h
theorem ws_next (h : Q.nx ρ S) : WS (sNext ρ S) Q := h
theorem ws_set {i : Nat} {m : EM} (h : WP (m ρ S) fun d S1 => Q.nx (ρ.set i (some d)) S1) : WS (sSet i m ρ S) Q := ws_of h
theorem ws_drop {m : EM} (h : WP (m ρ S) fun _ S1 => Q.nx ρ S1) : WS (sDrop m ρ S) Q := ws_of h
theorem ws_ret {m : EM} (h : WP (m ρ S) Q.rt) : WS (sRet m ρ S) Q := ws_of h
theorem ws_if {t : TM} {a b : SM} (h : WP (t ρ S) fun k S1 => (k = true → WS (a ρ S1) Q) ∧ (k = false → WS (b ρ S1) Q)) : WS (sIf t a b ρ S) Q := by
  refine ws_of (h.mono fun k S1 hk => ?_)
  cases k with
  | true => exact hk.1 rfl
  | false => exact hk.2 rfl
theorem ws_par {i j : Nat} {ms : AM} (h : WP (ms ρ S) fun ds S1 => ∃ a b, ds = [a, b] ∧ Q.nx ((ρ.set i (some a)).set j (some b)) S1) : WS (sPar i j ms ρ S) Q := by
  refine ws_of (h.mono fun ds S1 hh => ?_)
  obtain ⟨a, b, rfl, q⟩ := hh
  exact q
theorem ws_asg {t : Tg} {m : EM} (h : WP (m ρ S) fun d S1 => ∃ ρ', t.put d ρ = some ρ' ∧ Q.nx ρ' S1) : WS (sAsg t m ρ S) Q := by
  refine ws_of (h.mono fun d S1 hh => ?_)
  obtain ⟨ρ', e, q⟩ := hh
  rw [e]; exact q
theorem ws_sub {mo mi me : EM} (h : WP (me ρ S) fun v S1 => WP (mo ρ S1) fun o S2 => WP (mi ρ S2) fun i S3 => ∃ S4, dSet o i v S3 = some S4 ∧ Q.nx ρ S4) : WS (sSub mo mi me ρ S) Q := by
  refine ws_of (h.mono fun v S1 h => ws_of (h.mono fun o S2 h => ws_of (h.mono fun i S3 h => ?_)))
  obtain ⟨S4, e, q⟩ := h
  rw [e]; exact q
theorem wp_run {n : Nat} {m : SM} {ds : List D} {P : D → Sto → Prop} (h : WS (m (startE n ds) S) { nx := fun _ S' => P .non S', rt := P }) : WP (runB n m ds S) P := by
  unfold runB
  cases e : m (startE n ds) S with
  | stk => rw [e] at h; exact h
  | nx ρ' S' => rw [e] at h; exact h
  | rt d S' => rw [e] at h; exact h
  | bk ρ' S' => rw [e] at h; exact h.elim
  | ct ρ' S' => rw [e] at h; exact h.elim
  | ex x ρ' S' => rw [e] at h; exact h.elim

/-! ### for -/
theorem ws_loopF {s : Src} {t : Tg} {b : SM} (xs : List D) (J : Nat → Ev → Sto → Prop) (hat : ∀ i ρ S, J i ρ S → s.at_ i S = some xs[i]?)
    (step : ∀ i ρ S d, J i ρ S → xs[i]? = some d → ∃ ρ1, t.put d ρ = some ρ1 ∧ WS (b ρ1 S) { nx := J (i + 1), rt := Q.rt, ct := J (i + 1), bk := Q.nx, ex := Q.ex })
    (fin : ∀ ρ S, J xs.length ρ S → Q.nx ρ S) : ∀ (f i : Nat) (ρ : Ev) (S : Sto), J i ρ S → i ≤ xs.length → xs.length < i + f → WS (loopF s t b f i ρ S) Q
  | 0, i, ρ, S, j, hi, hf => by omega
  | f + 1, i, ρ, S, j, hi, hf => by
    unfold loopF
    rw [hat i ρ S j]
    cases e : xs[i]? with
    | none =>
      have : i = xs.length := Nat.le_antisymm hi (List.getElem?_eq_none_iff.mp e)
      subst this
      exact fin ρ S j
    | some d =>
      have hlt : i < xs.length := (List.getElem?_eq_some_iff.mp e).1
      obtain ⟨ρ1, e1, h⟩ := step i ρ S d j e
      simp only [e1]
      cases eb : b ρ1 S with
      | stk => rw [eb] at h; exact h
      | nx ρ' S' => rw [eb] at h; exact ws_loopF xs J hat step fin f (i + 1) ρ' S' h hlt (by omega)
      | ct ρ' S' => rw [eb] at h; exact ws_loopF xs J hat step fin f (i + 1) ρ' S' h hlt (by omega)
      | rt d S' => rw [eb] at h; exact h
      | bk ρ' S' => rw [eb] at h; exact h
      | ex x ρ' S' => rw [eb] at h; exact h
theorem ws_for {ms : IM} {t : Tg} {b : SM} (h : WP (ms ρ S) fun s S1 => ∃ (xs : List D) (J : Nat → Ev → Sto → Prop), J 0 ρ S1 ∧ xs.length < 2 ^ 24 ∧ (∀ i ρ S, J i ρ S → s.at_ i S = some xs[i]?) ∧
      (∀ i ρ S d, J i ρ S → xs[i]? = some d → ∃ ρ1, t.put d ρ = some ρ1 ∧ WS (b ρ1 S) { nx := J (i + 1), rt := Q.rt, ct := J (i + 1), bk := Q.nx, ex := Q.ex }) ∧ ∀ ρ S, J xs.length ρ S → Q.nx ρ S) : WS (sFor ms t b ρ S) Q := by
  refine ws_of (h.mono fun s S1 hh => ?_)
  obtain ⟨xs, J, j0, hl, hat, step, fin⟩ := hh
  exact ws_loopF xs J hat step fin FUEL 0 ρ S1 j0 (Nat.zero_le _) (by unfold FUEL; omega)
end

/-! ### comprehensions -/
theorem wp_loopC {s : Src} {t : Tg} {c : TM} {el : EM} {ρ0 : Ev} {a : Nat} {P : D → Sto → Prop} (xs : List D) (J : Nat → List D → Sto → Prop)
    (hat : ∀ i acc S, J i acc S → s.at_ i S = some xs[i]? ∧ acc.length ≤ i)
    (step : ∀ i acc S d, J i acc S → xs[i]? = some d → ∃ ρ1, t.put d ρ0 = some ρ1 ∧ WP (c ρ1 S) fun k S1 => (k = true → WP (el ρ1 S1) fun y S2 => S2[a]? = some (.lst acc) ∧ J (i + 1) (acc ++ [y]) (S2.set a (.lst (acc ++ [y])))) ∧ (k = false → J (i + 1) acc S1))
    (hl : xs.length < 2 ^ 24) (fin : ∀ acc S, J xs.length acc S → P (.ref a) S) : ∀ (f i : Nat) (acc : List D) (S : Sto), J i acc S → i ≤ xs.length → xs.length < i + f → WP (loopC s t c el ρ0 a f i S) P
  | 0, i, acc, S, j, hi, hf => by omega
  | f + 1, i, acc, S, j, hi, hf => by
    unfold loopC
    obtain ⟨ha, hacc⟩ := hat i acc S j
    rw [ha]
    cases e : xs[i]? with
    | none =>
      have : i = xs.length := Nat.le_antisymm hi (List.getElem?_eq_none_iff.mp e)
      subst this
      exact fin acc S j
    | some d =>
      have hlt : i < xs.length := (List.getElem?_eq_some_iff.mp e).1
      obtain ⟨ρ1, e1, h⟩ := step i acc S d j e
      obtain ⟨k, S1, ec, h⟩ := h.elim
      simp only [e1, ec]
      cases k with
      | false => exact wp_loopC xs J hat step hl fin f (i + 1) acc S1 (h.2 rfl) hlt (by omega)
      | true =>
        obtain ⟨y, S2, ee, h2, h3⟩ := (h.1 rfl).elim
        have hz : acc.length < sizeLine := by unfold sizeLine; omega
        simp only [ee, h2, if_pos hz]
        exact wp_loopC xs J hat step hl fin f (i + 1) _ _ h3 hlt (by omega)

/-! ### stores that go on -/
/-- all cells but those at A stay -/
def Stp (A : List Nat) (S S' : Sto) : Prop := S.length ≤ S'.length ∧ ∀ n x, n ∉ A → S[n]? = some x → S'[n]? = some x
section
variable {A B : List Nat} {S S' S'' : Sto}
theorem Stp.refl : Stp A S S := ⟨Nat.le_refl _, fun _ _ _ h => h⟩
theorem Stp.trans (h : Stp A S S') (q : Stp A S' S'') : Stp A S S'' := ⟨Nat.le_trans h.1 q.1, fun n x hn e => q.2 n x hn (h.2 n x hn e)⟩
theorem Stp.push {c : Cell} : Stp A S (S ++ [c]) := ⟨by simp, fun n x _ e => by rw [List.getElem?_append_left (List.getElem?_eq_some_iff.mp e).1]; exact e⟩
theorem Stp.set {n : Nat} {c : Cell} (h : n ∈ A) : Stp A S (S.set n c) := ⟨by simp, fun m x hm e => by rw [List.getElem?_set_ne (fun z : n = m => hm (z ▸ h))]; exact e⟩
theorem Stp.weak (h : Stp A S S') (hs : ∀ n, n ∈ A → n ∈ B) : Stp B S S' := ⟨h.1, fun n x hn e => h.2 n x (fun z => hn (hs n z)) e⟩
theorem Stp.nil (h : Stp [] S S') : Stp B S S' := h.weak fun n z => by cases z
theorem Stp.at_ (h : Stp A S S') {n : Nat} {c : Cell} (hn : n ∉ A) (e : S[n]? = some c) : S'[n]? = some c := h.2 n c hn e
/-- what is new may change -/
theorem Stp.new {n : Nat} {c : Cell} (h : Stp A S S') (hn : S.length ≤ n) : Stp A S (S'.set n c) := ⟨by simpa using h.1, fun m x hm e => by
  have : m < S.length := (List.getElem?_eq_some_iff.mp e).1
  rw [List.getElem?_set_ne (by omega)]; exact h.2 m x hm e⟩
theorem Stp.drop {n : Nat} (h : Stp (n :: A) S S') (hn : S.length ≤ n) : Stp A S S' := ⟨h.1, fun m x hm e => h.2 m x (fun z => by
  have : m < S.length := (List.getElem?_eq_some_iff.mp e).1
  rcases List.mem_cons.mp z with z | z
  · omega
  · exact hm z) e⟩
theorem seq_stp (h : Stp A S S') {n : Nat} (hn : n ∉ A) {xs : List D} (e : seqAt S n = some xs) : seqAt S' n = some xs := by
  unfold seqAt at e ⊢
  split at e
  · rename_i ys en; rw [h.2 n _ hn en]; exact e
  · rename_i ys en; rw [h.2 n _ hn en]; exact e
  · cases e
end
end DL

/-! the D-layer: the functions' equations; the hand and its draws -/
namespace DL
open PySem L2
section
variable {ρ : Ev} {S : Sto}
theorem r_C (d : D) : mC d ρ S = .ok d S := rfl
theorem r_V (i : Nat) : mVar i ρ S = match ρ[i]? with | some (some d) => .ok d S | _ => .stk := rfl
theorem r_Bin (f : DOp) (a b : EM) : mBin f a b ρ S = (a ρ S).bind fun x S1 => (b ρ S1).bind fun y S2 => ofO (f x y S2) := rfl
theorem r_Un (f : D → Sto → Option (D × Sto)) (a : EM) : mUn f a ρ S = (a ρ S).bind fun x S1 => ofO (f x S1) := rfl
theorem r_Nil : aNil ρ S = .ok [] S := rfl
theorem r_Cons (m : EM) (r : AM) : aCons m r ρ S = (m ρ S).bind fun x S1 => (r ρ S1).bind fun xs S2 => .ok (x :: xs) S2 := rfl
theorem r_Tup (ms : AM) : mTup ms ρ S = (ms ρ S).bind fun xs S1 => if xs.length ≤ sizeLine then .ok (.tup xs) S1 else .stk := rfl
theorem r_Lst (ms : AM) : mLst ms ρ S = (ms ρ S).bind fun xs S1 => if xs.length ≤ sizeLine then .ok (.ref S1.length) (S1 ++ [.lst xs]) else .stk := rfl
theorem r_Call (n : Nat) (F : FM) (ms : AM) : mCall n F ms ρ S = (ms ρ S).bind fun xs S1 => if xs.length = n then F xs S1 else .stk := rfl
theorem r_CallK (n : Nat) (F : FM) (perm : List (Bool × Nat)) (ms mk : AM) : mCallK n F perm ms mk ρ S = (ms ρ S).bind fun xs S1 => (mk ρ S1).bind fun ys S2 => if (pick perm xs ys).length = n then F (pick perm xs ys) S2 else .stk := rfl
theorem r_CB (f : DOps) (ms : AM) : mCB f ms ρ S = (ms ρ S).bind fun xs S1 => ofO (f xs S1) := rfl
theorem r_Mt (c : Rc) (f : DM) (mo : EM) (ms : AM) : mMt c f mo ms ρ S = (mo ρ S).bind fun o S1 => if c.is o S1 = true then (ms ρ S1).bind fun xs S2 => ofO (f o xs S2) else .stk := rfl
theorem r_Sl (m : EM) (l u : OM) : mSl m l u ρ S = (m ρ S).bind fun x S1 => (l ρ S1).bind fun lo S2 => (u ρ S2).bind fun hi S3 => ofO (dSl x lo hi S3) := rfl
theorem r_ON : oNone ρ S = .ok none S := rfl
theorem r_OS (m : EM) : oSome m ρ S = (m ρ S).bind fun d S1 => match d with | .int i => .ok (some i) S1 | _ => .stk := rfl
theorem r_Rev (m : EM) : mRev m ρ S = (m ρ S).bind fun d S1 => match d with
  | .ref n => match seqAt S1 n with
    | some xs => .ok (.ref S1.length) (S1 ++ [.lst xs.reverse])
    | none => .stk
  | .tup xs => .ok (.tup xs.reverse) S1
  | .str x => if x.length ≤ sizeLine then .ok (.str (revS x)) S1 else .stk
  | _ => .stk := rfl
theorem r_Dct0 : mDct0 ρ S = .ok (.ref S.length) (S ++ [.dct []]) := rfl
theorem r_Dct (ks : List Str) (ms : AM) : mDct ks ms ρ S = (ms ρ (S ++ [.dct []])).bind fun xs S1 => match S1[S.length]? with
  | some (.dct []) => if (decide (ks.length ≤ 15) && decide (xs.length = ks.length)) = true then .ok (.ref S.length) (S1.set S.length (.dct (disp (ks.zip xs)))) else .stk
  | _ => .stk := rfl
theorem r_Tru (m : EM) : mTru m ρ S = (m ρ S).bind fun d S1 => match dTru d S1 with | some k => .ok k S1 | none => .stk := by
  unfold mTru
  congr 1
theorem r_Test (m : EM) : mTest m ρ S = (m ρ S).bind fun d S1 => match d with | .bl k => .ok k S1 | _ => .stk := rfl
theorem r_tAnd (a b : TM) : tAnd' a b ρ S = (a ρ S).bind fun k S1 => if k = true then b ρ S1 else .ok false S1 := rfl
theorem r_tOr (a b : TM) : tOr' a b ρ S = (a ρ S).bind fun k S1 => if k = true then .ok true S1 else b ρ S1 := rfl
theorem r_tNot (a : TM) : tNot' a ρ S = (a ρ S).bind fun k S1 => .ok (!k) S1 := rfl
theorem r_tTrue : tTrue ρ S = .ok true S := rfl
theorem r_And (a b : EM) : mAnd a b ρ S = (a ρ S).bind fun d S1 => match dTru d S1 with | none => .stk | some k => if k = true then b ρ S1 else .ok d S1 := rfl
theorem r_Or (a b : EM) : mOr a b ρ S = (a ρ S).bind fun d S1 => match dTru d S1 with | none => .stk | some k => if k = true then .ok d S1 else b ρ S1 := rfl
theorem r_Not (a : EM) : mNot a ρ S = (a ρ S).bind fun d S1 => match dTru d S1 with | none => .stk | some k => .ok (.bl (!k)) S1 := rfl
theorem r_If (t : TM) (a b : EM) : mIf t a b ρ S = (t ρ S).bind fun k S1 => if k = true then a ρ S1 else b ρ S1 := rfl
theorem r_Chain (f g : DOp) (a b c : EM) : mChain f g a b c ρ S = (a ρ S).bind fun x S1 => (b ρ S1).bind fun y S2 => (ofO (f x y S2)).bind fun z S3 => match z with
  | .bl true => (c ρ S3).bind fun w S4 => ofO (g y w S4)
  | .bl false => .ok (.bl false) S3
  | _ => .stk := rfl
theorem r_iAny (m : EM) : iAny m ρ S = (m ρ S).bind fun d S1 => match d with
  | .ref n => if (seqAt S1 n).isSome = true then .ok (.lst n) S1 else .stk
  | .tup xs => .ok (.tup xs) S1
  | .str x => .ok (.str x) S1
  | _ => .stk := rfl
theorem r_iRg1 (ms : AM) : iRg1 ms ρ S = (ms ρ S).bind fun ds S1 => match ds with
  | [.int j] => if inR j = true then .ok (.rng 0 j.toNat) S1 else .stk
  | _ => .stk := rfl
theorem r_Lc (ms : IM) (t : Tg) (c : TM) (el : EM) (vs : List Nat) : mLc ms t c el vs ρ S = (ms ρ S).bind fun s S1 => loopC s t c el (wipeE ρ vs) S1.length FUEL 0 (S1 ++ [.lst []]) := rfl
end
theorem ofO_map {α β : Type} (o : Option α) (f : α → β) (S : Sto) : (ofO (o.map fun b => (f b, S)) : R β) = match o with | some b => .ok (f b) S | none => .stk := by cases o <;> rfl
theorem g0 {α : Type} (a : α) (l : List α) : (a :: l)[0]? = some a := rfl
theorem gs {α : Type} (a : α) (l : List α) (n : Nat) : (a :: l)[n + 1]? = l[n]? := rfl
theorem st0 {α : Type} (a b : α) (l : List α) : (a :: l).set 0 b = b :: l := rfl
theorem sts {α : Type} (a b : α) (l : List α) (n : Nat) : (a :: l).set (n + 1) b = a :: l.set n b := rfl
theorem g1 {α : Type} (a b : α) (l : List α) : (a :: b :: l)[1]? = some b := rfl
theorem g2 {α : Type} (a b c : α) (l : List α) : (a :: b :: c :: l)[2]? = some c := rfl
theorem g3 {α : Type} (a b c d : α) (l : List α) : (a :: b :: c :: d :: l)[3]? = some d := rfl
theorem g4 {α : Type} (a b c d e : α) (l : List α) : (a :: b :: c :: d :: e :: l)[4]? = some e := rfl
theorem g5 {α : Type} (a b c d e f : α) (l : List α) : (a :: b :: c :: d :: e :: f :: l)[5]? = some f := rfl
theorem g6 {α : Type} (a b c d e f g : α) (l : List α) : (a :: b :: c :: d :: e :: f :: g :: l)[6]? = some g := rfl
theorem t1 {α : Type} (a b x : α) (l : List α) : (a :: b :: l).set 1 x = a :: x :: l := rfl
theorem t2 {α : Type} (a b c x : α) (l : List α) : (a :: b :: c :: l).set 2 x = a :: b :: x :: l := rfl
theorem t3 {α : Type} (a b c d x : α) (l : List α) : (a :: b :: c :: d :: l).set 3 x = a :: b :: c :: x :: l := rfl
theorem t4 {α : Type} (a b c d e x : α) (l : List α) : (a :: b :: c :: d :: e :: l).set 4 x = a :: b :: c :: d :: x :: l := rfl
theorem t5 {α : Type} (a b c d e f x : α) (l : List α) : (a :: b :: c :: d :: e :: f :: l).set 5 x = a :: b :: c :: d :: e :: x :: l := rfl
theorem t6 {α : Type} (a b c d e f g x : α) (l : List α) : (a :: b :: c :: d :: e :: f :: g :: l).set 6 x = a :: b :: c :: d :: e :: f :: x :: l := rfl

/-! ### the hand -/
abbrev kC : Key := Sum.inr (Str.ofString "cells")
abbrev kM : Key := Sum.inr (Str.ofString "mixed")
abbrev kD : Key := Sum.inr (Str.ofString "draws")
/-- a hand at h, its cells at c -/
def Hand (h c : Nat) (S : Sto) : Prop := h ≠ c ∧ ∃ (ns : List Int) (m d : Int), ns.length ≤ 63 ∧ S[h]? = some (.dct [(kC, .ref c), (kM, .int m), (kD, .int d)]) ∧ S[c]? = some (.lst (ns.map D.int))
/-- the hand has gone on, all else stays -/
def Adv (h c : Nat) (S S' : Sto) : Prop := Hand h c S' ∧ Stp [h, c] S S'
theorem Adv.trans {h c : Nat} {S S' S'' : Sto} (a : Adv h c S S') (b : Adv h c S' S'') : Adv h c S S'' := ⟨b.1, a.2.trans b.2⟩
theorem Adv.refl {h c : Nat} {S : Sto} (a : Hand h c S) : Adv h c S S := ⟨a, .refl⟩
theorem Hand.lt {h c : Nat} {S : Sto} (a : Hand h c S) : h < S.length ∧ c < S.length := by
  obtain ⟨_, ns, m, d, _, e1, e2⟩ := a
  exact ⟨(List.getElem?_eq_some_iff.mp e1).1, (List.getElem?_eq_some_iff.mp e2).1⟩
/-- what doesn't touch the hand -/
theorem Hand.stp {h c : Nat} {S S' : Sto} (a : Hand h c S) (x : Stp [] S S') : Adv h c S S' := by
  refine ⟨?_, x.nil⟩
  obtain ⟨hne, ns, m, d, hl, e1, e2⟩ := a
  exact ⟨hne, ns, m, d, hl, x.at_ (by simp) e1, x.at_ (by simp) e2⟩
theorem nCM : (kC = kM) = False := by simp only [eq_iff_iff, iff_false]; decide
theorem nCD : (kC = kD) = False := by simp only [eq_iff_iff, iff_false]; decide
theorem nMD : (kM = kD) = False := by simp only [eq_iff_iff, iff_false]; decide
theorem hand_c {n m d : D} : valD [(kC, n), (kM, m), (kD, d)] kC = some n := rfl
theorem hand_m {n m d : D} : valD [(kC, n), (kM, m), (kD, d)] kM = some m := rfl
theorem hand_d {n m d : D} : valD [(kC, n), (kM, m), (kD, d)] kD = some d := rfl
theorem put_d {n m d x : D} : putD [(kC, n), (kM, m), (kD, d)] kD x = [(kC, n), (kM, m), (kD, x)] := rfl
theorem ix_dct {S : Sto} {n : Nat} {kvs : List (Key × D)} {x : Str} {d : D} (e : S[n]? = some (.dct kvs)) (v : valD kvs (Sum.inr x) = some d) : dIx (.ref n) (.str x) S = some (d, S) := by
  unfold dIx
  simp only [e, keyD, Option.bind_some, v, Option.map_some]
theorem set_dct {S : Sto} {n : Nat} {kvs : List (Key × D)} {x : Str} {d : D} (e : S[n]? = some (.dct kvs)) (l : kvs.length < sizeLine) : dSet (.ref n) (.str x) d S = some (S.set n (.dct (putD kvs (Sum.inr x) d))) := by
  unfold dSet
  simp only [e, keyD, Option.bind_some, if_pos l]
/-- what is drawn: the general text -/
def mDraw (a1 a2 a3 a4 a5 a6 a7 a8 a9 : Int) : SM := sSeq (sSub (mVar 0) (mC (.str "draws")) (mBin dAdd (mBin dIx (mVar 0) (mC (.str "draws"))) (mC (.int 1))))
    (sSeq (sSet 2 (mBin dAdd (mBin dIx (mVar 0) (mC (.str "mixed"))) (mBin dMul (mC (.int a1)) (mBin dIx (mVar 0) (mC (.str "draws"))))))
    (sSeq (sIf (mTest (mBin dNe (mBin dIx (mVar 0) (mC (.str "cells"))) (mLst (aNil)))) (sSeq (sSet 3 (mMt .lst dPop (mBin dIx (mVar 0) (mC (.str "cells"))) aNil))
    (sSeq (sIf (mTest (mBin dGe (mVar 3) (mBin dPow (mC (.int 10)) (mC (.int 18))))) (sSeq (sDrop (mMt .lst dAppend (mBin dIx (mVar 0) (mC (.str "cells"))) (aCons (mBin dFdiv (mVar 3) (mVar 1)) (aNil))))
    (sRet (mBin dMod (mVar 3) (mVar 1)))) (sNext))
    (sSet 2 (mBin dAdd (mVar 2) (mVar 3))))) (sNext))
    (sSeq (sSet 2 (mBin dMod (mBin dMul (mBin dMod (mVar 2) (mC (.int a2))) (mC (.int a3))) (mC (.int a4))))
    (sSeq (sSet 2 (mBin dMod (mBin dAdd (mBin dAdd (mBin dMul (mVar 2) (mVar 2)) (mBin dMul (mC (.int a5)) (mBin dIx (mVar 0) (mC (.str "draws"))))) (mC (.int a6))) (mC (.int a7))))
    (sRet (mBin dMod (mBin dFdiv (mBin dMod (mBin dMul (mVar 2) (mC (.int a8))) (mC (.int a9))) (mC (.int 32))) (mVar 1)))))))
theorem mod_small {i m : Int} (h1 : 0 < m) (h2 : m < 2 ^ 62) : -(2 ^ 64) < i.fmod m ∧ i.fmod m < 2 ^ 64 := by
  have a := Int.fmod_nonneg_of_pos i h1
  have b := Int.fmod_lt_of_pos i h1
  omega
section
variable {a1 a2 a3 a4 a5 a6 a7 a8 a9 : Int}
/-- the numbers of the text are small -/
def inS (a : Int) : Bool := decide (-(2 ^ 64) < a) && decide (a < 2 ^ 64)
def DrawOk (a1 a2 a3 a4 a5 a6 a7 a8 a9 : Int) : Bool := inS a1 && inS a3 && inS a5 && inS a8 && decide (a2 ≠ 0) && decide (0 < a4) && decide (a4 < 2 ^ 62) && decide (a7 ≠ 0) && decide (a9 ≠ 0)
theorem cMul_l {i j : Int} (h : -(2 ^ 64) < i ∧ i < 2 ^ 64) : cMul i j = true := by
  unfold cMul; simp only [Bool.or_eq_true, Bool.and_eq_true, decide_eq_true_eq]; exact .inl h
theorem cMul_r {i j : Int} (h : -(2 ^ 64) < j ∧ j < 2 ^ 64) : cMul i j = true := by
  unfold cMul; simp only [Bool.or_eq_true, Bool.and_eq_true, decide_eq_true_eq]; exact .inr h
theorem ne_nil {S : Sto} {c n : Nat} {xs : List D} (e : S[c]? = some (.lst xs)) (e2 : S[n]? = some (.lst [])) : dNe (.ref c) (.ref n) S = some (.bl (!xs.isEmpty), S) := by
  have a : seqAt S c = some xs := by unfold seqAt; rw [e]
  have b : seqAt S n = some [] := by unfold seqAt; rw [e2]
  unfold dNe eqD eq0
  simp only [a, b, List.isEmpty_nil, Bool.or_true, if_true, Bool.and_true, Option.map_some]
theorem rc_lst {S : Sto} {n : Nat} {xs : List D} (e : S[n]? = some (.lst xs)) : Rc.is .lst (.ref n) S = true := by
  show (seqAt S n).isSome = true
  unfold seqAt
  rw [e]; rfl
theorem last_ints {ns : List Int} (h : ns ≠ []) : ∃ i, (ns.map D.int)[(ns.map D.int).length - 1]? = some (.int i) ∧ (ns.map D.int).dropLast = ns.dropLast.map D.int := by
  refine ⟨ns.getLast h, ?_, by simp⟩
  rw [List.getElem?_map, List.length_map]
  rw [List.getElem?_eq_getElem (by have := List.length_pos_iff.mpr h; omega), List.getLast_eq_getElem]
  rfl
theorem draw_ok (ok : DrawOk a1 a2 a3 a4 a5 a6 a7 a8 a9 = true) {h c : Nat} {k : Int} {S : Sto} (H : Hand h c S) (hk : 0 < k) (hk2 : k < 1073741824) :
    WP (runB 4 (mDraw a1 a2 a3 a4 a5 a6 a7 a8 a9) [.ref h, .int k] S) fun r S' => ∃ i, r = .int i ∧ 0 ≤ i ∧ i < k ∧ Adv h c S S' := by
  simp only [DrawOk, Bool.and_eq_true, decide_eq_true_eq] at ok
  obtain ⟨⟨⟨⟨⟨⟨⟨⟨o1, o3⟩, o5⟩, o8⟩, o2⟩, o4⟩, o4'⟩, o7⟩, o9⟩ := ok
  have ins : ∀ {a : Int}, inS a = true → -(2 ^ 64) < a ∧ a < 2 ^ 64 := fun {a} hh => by
    unfold inS at hh
    simpa only [Bool.and_eq_true, decide_eq_true_eq] using hh
  have m1 : ∀ j, cMul a1 j = true := fun j => cMul_l (ins o1)
  have m3 : ∀ j, cMul j a3 = true := fun j => cMul_r (ins o3)
  have m5 : ∀ j, cMul a5 j = true := fun j => cMul_l (ins o5)
  have m8 : ∀ j, cMul j a8 = true := fun j => cMul_r (ins o8)
  have mm : ∀ j : Int, cMul (j.fmod a4) (j.fmod a4) = true := fun j => cMul_l (mod_small o4 o4')
  obtain ⟨hne, ns, m, d, hl, e1, e2⟩ := H
  obtain ⟨lh, lc⟩ := (show h < S.length ∧ c < S.length from ⟨(List.getElem?_eq_some_iff.mp e1).1, (List.getElem?_eq_some_iff.mp e2).1⟩)
  have dmod : ∀ (i j : Int) (T : Sto), j ≠ 0 → dMod (.int i) (.int j) T = some (.int (i.fmod j), T) := fun i j T hj => by
    unfold dMod dI
    simp only [decide_eq_true_eq, if_pos hj]
  have dmul : ∀ (i j : Int) (T : Sto), cMul i j = true → dMul (.int i) (.int j) T = some (.int (i * j), T) := fun i j T hj => by
    unfold dMul
    simp only [if_pos hj]
  have dadd : ∀ (i j : Int) (T : Sto), dAdd (.int i) (.int j) T = some (.int (i + j), T) := fun i j T => rfl
  have dfdiv : ∀ (i j : Int) (T : Sto), j ≠ 0 → j.natAbs < 1073741824 → dFdiv (.int i) (.int j) T = some (.int (i.fdiv j), T) := fun i j T hj h2 => by
    unfold dFdiv dI
    simp only [Bool.and_eq_true, decide_eq_true_eq, if_pos (And.intro hj h2)]
  have hk0 : k ≠ 0 := by omega
  -- the end
  have tail : ∀ (T : Sto) (x : Int) (y : Option D), Hand h c T → Stp [h, c] S T →
      WS ((sSeq (sSet 2 (mBin dMod (mBin dMul (mBin dMod (mVar 2) (mC (.int a2))) (mC (.int a3))) (mC (.int a4))))
    (sSeq (sSet 2 (mBin dMod (mBin dAdd (mBin dAdd (mBin dMul (mVar 2) (mVar 2)) (mBin dMul (mC (.int a5)) (mBin dIx (mVar 0) (mC (.str "draws"))))) (mC (.int a6))) (mC (.int a7))))
    (sRet (mBin dMod (mBin dFdiv (mBin dMod (mBin dMul (mVar 2) (mC (.int a8))) (mC (.int a9))) (mC (.int 32))) (mVar 1))))) [some (.ref h), some (.int k), some (.int x), y] T)
      { nx := fun _ S' => ∃ i, (D.non) = .int i ∧ 0 ≤ i ∧ i < k ∧ Adv h c S S', rt := fun r S' => ∃ i, r = .int i ∧ 0 ≤ i ∧ i < k ∧ Adv h c S S' } := fun T x y HT st => by
    obtain ⟨_, ns', m', d', hl', f1, f2⟩ := id HT
    refine ws_seq (ws_set ?_)
    simp only [r_Bin, r_V, r_C, g0, g1, g2, bind_ok, dmod _ _ _ o2, dmul _ _ _ (m3 _), dmod _ _ _ (show a4 ≠ 0 by omega), ofO_some, wp_ok, t2]
    refine ws_seq (ws_set ?_)
    simp only [r_Bin, r_V, r_C, g0, g1, g2, bind_ok, dmul _ _ _ (mm _), ix_dct f1 hand_d, dmul _ _ _ (m5 _), dadd, dmod _ _ _ o7, ofO_some, wp_ok, t2]
    refine ws_ret ?_
    simp only [r_Bin, r_V, r_C, g0, g1, g2, bind_ok, dmul _ _ _ (m8 _), dmod _ _ _ o9, dfdiv _ _ _ (show (32 : Int) ≠ 0 by decide) (by decide), dmod _ _ _ hk0, ofO_some, wp_ok]
    exact ⟨_, rfl, Int.fmod_nonneg_of_pos _ hk, Int.fmod_lt_of_pos _ hk, HT, st⟩
  refine wp_run (ws_seq (ws_sub ?_))
  simp only [startE, List.map_cons, List.map_nil, List.length_cons, List.length_nil, List.cons_append, List.nil_append, List.replicate, r_Bin, r_V, r_C, g0, g1, bind_ok, ix_dct e1 hand_d, dadd, ofO_some, wp_ok]
  refine ⟨_, set_dct e1 (by simp only [List.length_cons, List.length_nil]; decide), ?_⟩
  have e1' : (S.set h (.dct (putD [(kC, .ref c), (kM, .int m), (kD, .int d)] kD (.int (d + 1)))))[h]? = some (.dct [(kC, .ref c), (kM, .int m), (kD, .int (d + 1))]) := by
    rw [List.getElem?_set_self lh]; rfl
  have e2' : (S.set h (.dct (putD [(kC, .ref c), (kM, .int m), (kD, .int d)] kD (.int (d + 1)))))[c]? = some (.lst (ns.map D.int)) := by
    rw [List.getElem?_set_ne hne]; exact e2
  have st0 : Stp [h, c] S (S.set h (.dct (putD [(kC, .ref c), (kM, .int m), (kD, .int d)] kD (.int (d + 1))))) := .set (by simp)
  generalize (S.set h (.dct (putD [(kC, .ref c), (kM, .int m), (kD, .int d)] kD (.int (d + 1))))) = S1 at e1' e2' st0 ⊢
  refine ws_seq (ws_set ?_)
  simp only [r_Bin, r_V, r_C, g0, g1, bind_ok, ix_dct e1' hand_m, ix_dct e1' hand_d, dmul _ _ _ (m1 _), dadd, ofO_some, wp_ok, t2]
  refine ws_seq (ws_if ?_)
  -- the list to compare with
  have e1'' : (S1 ++ [.lst []])[h]? = some (.dct [(kC, .ref c), (kM, .int m), (kD, .int (d + 1))]) := (Stp.push (A := [])).at_ (by simp) e1'
  have e2'' : (S1 ++ [.lst []])[c]? = some (.lst (ns.map D.int)) := (Stp.push (A := [])).at_ (by simp) e2'
  have st1 : Stp [h, c] S (S1 ++ [.lst []]) := st0.trans .push
  have en : (S1 ++ [Cell.lst []])[S1.length]? = some (.lst []) := by simp
  have zl : ([] : List D).length ≤ sizeLine := Nat.zero_le _
  simp only [r_Test, r_Bin, r_V, r_C, r_Lst, r_Nil, g0, g1, bind_ok, ix_dct e1' hand_c, if_pos zl, ne_nil e2'' en, ofO_some, wp_ok]
  clear en
  generalize (S1 ++ [Cell.lst []]) = S2 at e1'' e2'' st1 ⊢
  constructor
  · -- a cell is taken
    intro hz
    have nz : ns ≠ [] := by
      intro z; subst z; simp at hz
    obtain ⟨i, hi, hd⟩ := last_ints nz
    refine ws_seq (ws_set ?_)
    have hr : Rc.is .lst (.ref c) S2 = true := rc_lst e2''
    have hp : dPop (.ref c) [] S2 = some (.int i, S2.set c (.lst (ns.dropLast.map D.int))) := by
      unfold dPop
      simp only [e2'', hi, hd, Option.map_some]
    simp only [r_Mt, r_Bin, r_V, r_C, r_Nil, g0, g1, bind_ok, ix_dct e1'' hand_c, if_pos hr, hp, ofO_some, wp_ok, t3]
    have lc2 : c < S2.length := (List.getElem?_eq_some_iff.mp e2'').1
    have f1 : (S2.set c (.lst (ns.dropLast.map D.int)))[h]? = some (.dct [(kC, .ref c), (kM, .int m), (kD, .int (d + 1))]) := by rw [List.getElem?_set_ne (Ne.symm hne)]; exact e1''
    have f2 : (S2.set c (.lst (ns.dropLast.map D.int)))[c]? = some (.lst (ns.dropLast.map D.int)) := List.getElem?_set_self lc2
    have st2 : Stp [h, c] S (S2.set c (.lst (ns.dropLast.map D.int))) := st1.trans (.set (by simp))
    have nl : ns.dropLast.length ≤ 62 := by rw [List.length_dropLast]; omega
    generalize S2.set c (.lst (ns.dropLast.map D.int)) = S3 at f1 f2 st2 ⊢
    have dpow : dPow (.int 10) (.int 18) S3 = some (.int (10 ^ 18), S3) := rfl
    have dge : ∀ j : Int, dGe (.int i) (.int j) S3 = some (.bl (decide (j ≤ i)), S3) := fun j => rfl
    refine ws_seq (ws_if ?_)
    simp only [r_Test, r_Bin, r_V, r_C, g0, g1, g2, g3, bind_ok, dpow, dge, ofO_some, wp_ok]
    constructor
    · intro _
      refine ws_seq (ws_drop ?_)
      have hr : Rc.is .lst (.ref c) S3 = true := rc_lst f2
      have hz2 : (ns.dropLast.map D.int).length < sizeLine := by rw [List.length_map]; exact Nat.lt_of_le_of_lt nl (by decide)
      have hp : dAppend (.ref c) [.int (i.fdiv k)] S3 = some (.non, S3.set c (.lst ((ns.dropLast ++ [i.fdiv k]).map D.int))) := by
        unfold dAppend
        simp only [f2, if_pos hz2, List.map_append, List.map_cons, List.map_nil]
      have hf := dfdiv i k S3 hk0 (by omega)
      simp only [r_Mt, r_Bin, r_V, r_C, r_Nil, r_Cons, g0, g1, g2, g3, bind_ok, ix_dct f1 hand_c, if_pos hr, hf, hp, ofO_some, wp_ok]
      refine ws_ret ?_
      simp only [r_Bin, r_V, r_C, g0, g1, g2, g3, bind_ok, dmod _ _ _ hk0, ofO_some, wp_ok]
      refine ⟨_, rfl, Int.fmod_nonneg_of_pos _ hk, Int.fmod_lt_of_pos _ hk, ⟨hne, ns.dropLast ++ [i.fdiv k], m, d + 1, ?_, ?_, ?_⟩, st2.trans (.set (by simp))⟩
      · rw [List.length_append]; simp only [List.length_cons, List.length_nil]; omega
      · rw [List.getElem?_set_ne (Ne.symm hne)]; exact f1
      · exact List.getElem?_set_self (List.getElem?_eq_some_iff.mp f2).1
    · intro _
      refine ws_next ?_
      dsimp only
      refine ws_set ?_
      simp only [r_Bin, r_V, r_C, g0, g1, g2, g3, bind_ok, dadd, ofO_some, wp_ok, t2]
      exact tail S3 _ _ ⟨hne, ns.dropLast, m, d + 1, by omega, f1, f2⟩ st2
  · intro _
    refine ws_next ?_
    exact tail S2 _ _ ⟨hne, ns, m, d + 1, hl, e1'', e2''⟩ st1
end
end DL

/-! the D-layer: the hand is made -/
namespace DL
open PySem L2
theorem d_mod (i j : Int) (T : Sto) (hj : j ≠ 0) : dMod (.int i) (.int j) T = some (.int (i.fmod j), T) := by
  unfold dMod dI
  simp only [decide_eq_true_eq, if_pos hj]
theorem d_mul (i j : Int) (T : Sto) (hj : cMul i j = true) : dMul (.int i) (.int j) T = some (.int (i * j), T) := by
  unfold dMul
  simp only [if_pos hj]
theorem d_add (i j : Int) (T : Sto) : dAdd (.int i) (.int j) T = some (.int (i + j), T) := rfl
theorem d_sub (i j : Int) (T : Sto) : dSub (.int i) (.int j) T = some (.int (i - j), T) := rfl
theorem d_fdiv (i j : Int) (T : Sto) (hj : j ≠ 0) (h2 : j.natAbs < 1073741824) : dFdiv (.int i) (.int j) T = some (.int (i.fdiv j), T) := by
  unfold dFdiv dI
  simp only [Bool.and_eq_true, decide_eq_true_eq, if_pos (And.intro hj h2)]
theorem ins_of {a : Int} (hh : inS a = true) : -(2 ^ 64) < a ∧ a < 2 ^ 64 := by
  unfold inS at hh
  simpa only [Bool.and_eq_true, decide_eq_true_eq] using hh
def mHand (b0 b1 b2 b3 b4 : Int) : SM := sSeq (sPar 2 3 (aCons (mCB bList (aCons (mSl (mVar 0) (oNone) (oSome (mC (.int 63)))) (aNil))) (aCons (mC (.int b0)) (aNil))))
    (sSeq (sFor (iAny (mVar 2)) (.nm 1) (sSet 3 (mBin dMod (mBin dAdd (mBin dAdd (mBin dMul (mVar 3) (mC (.int b1))) (mBin dMod (mVar 1) (mC (.int b2)))) (mC (.int b3))) (mC (.int b4)))))
    (sRet (mDct ["cells", "mixed", "draws"] (aCons (mRev (mVar 2)) (aCons (mVar 3) (aCons (mC (.int 0)) (aNil)))))))
def HandOk (b1 b2 b4 : Int) : Bool := inS b1 && decide (b2 ≠ 0) && decide (b4 ≠ 0)
theorem cut_ints (ns : List Int) (lo hi : Option Int) : ∃ ms : List Int, cutD (ns.map D.int) lo hi = ms.map D.int ∧ ms.length ≤ ns.length := by
  refine ⟨(ns.drop (HT.sIx ns.length 0 lo)).take (HT.sIx ns.length ns.length hi - HT.sIx ns.length 0 lo), ?_, ?_⟩
  · unfold cutD
    rw [List.length_map, List.map_take, List.map_drop]
  · rw [List.length_take, List.length_drop]; omega
theorem hand_ok2 {b0 b1 b2 b3 b4 : Int} (ok : HandOk b1 b2 b4 = true) {ns : List Int} (hn : ns.length ≤ 63) :
    WP (runB 4 (mHand b0 b1 b2 b3 b4) [.ref 0] [.fz (ns.map D.int)]) fun r S' => ∃ h c, r = .ref h ∧ Hand h c S' ∧ 0 ≠ h ∧ 0 ≠ c ∧ S'[0]? = some (.fz (ns.map D.int)) := by
  simp only [HandOk, Bool.and_eq_true, decide_eq_true_eq] at ok
  obtain ⟨⟨o1, o2⟩, o4⟩ := ok
  obtain ⟨ms, em, lm⟩ := cut_ints ns none (some 63)
  have m1 : ∀ j, cMul j b1 = true := fun j => cMul_r (ins_of o1)
  refine wp_run (ws_seq (ws_par ?_))
  have es : seqAt [Cell.fz (ns.map D.int)] 0 = some (ns.map D.int) := rfl
  have e1 : dSl (.ref 0) none (some 63) [Cell.fz (ns.map D.int)] = some (.ref 1, [.fz (ns.map D.int), .lst (ms.map D.int)]) := by
    unfold dSl
    simp only [es, Option.map_some, em]
    rfl
  have e2 : bList [.ref 1] [.fz (ns.map D.int), .lst (ms.map D.int)] = some (.ref 2, [.fz (ns.map D.int), .lst (ms.map D.int), .lst (ms.map D.int)]) := rfl
  simp only [startE, List.map_cons, List.map_nil, List.length_cons, List.length_nil, List.cons_append, List.nil_append, List.replicate, r_Cons, r_Nil, r_CB, r_Sl, r_ON, r_OS, r_V, r_C, g0, bind_ok, e1, e2, ofO_some, wp_ok]
  refine ⟨_, _, rfl, ws_seq ?_⟩
  have eq2 : seqAt [.fz (ns.map D.int), .lst (ms.map D.int), .lst (ms.map D.int)] 2 = some (ms.map D.int) := rfl
  have tail : ∀ (x : Option D) (m : Int), WS (sRet (mDct ["cells", "mixed", "draws"] (aCons (mRev (mVar 2)) (aCons (mVar 3) (aCons (mC (.int 0)) (aNil))))) [some (.ref 0), x, some (.ref 2), some (.int m)] [.fz (ns.map D.int), .lst (ms.map D.int), .lst (ms.map D.int)])
      { nx := fun _ S' => ∃ h c, D.non = .ref h ∧ Hand h c S' ∧ 0 ≠ h ∧ 0 ≠ c ∧ S'[0]? = some (.fz (ns.map D.int)), rt := fun r S' => ∃ h c, r = .ref h ∧ Hand h c S' ∧ 0 ≠ h ∧ 0 ≠ c ∧ S'[0]? = some (.fz (ns.map D.int)) } := fun x m => by
    refine ws_ret ?_
    have eq3 : seqAt ([.fz (ns.map D.int), .lst (ms.map D.int), .lst (ms.map D.int)] ++ [Cell.dct []]) 2 = some (ms.map D.int) := rfl
    simp only [r_Dct, r_Cons, r_Nil, r_Rev, r_V, r_C, g0, g1, g2, g3, bind_ok, eq3, wp_ok]
    refine ⟨3, 4, rfl, ⟨by decide, ms.reverse, m, 0, by rw [List.length_reverse]; omega, rfl, ?_⟩, by decide, by decide, rfl⟩
    show some (Cell.lst (ms.map D.int).reverse) = some (.lst (ms.reverse.map D.int))
    rw [List.map_reverse]
  refine ws_for ?_
  simp only [r_iAny, r_V, t2, t3, g0, g1, g2, g3, bind_ok, eq2, Option.isSome_some, if_true, wp_ok]
  refine ⟨ms.map D.int, fun i ρ S => ∃ (x : Option D) (m : Int), ρ = [some (.ref 0), x, some (.ref 2), some (.int m)] ∧ S = [.fz (ns.map D.int), .lst (ms.map D.int), .lst (ms.map D.int)], ⟨none, _, rfl, rfl⟩, ?_, ?_, ?_, ?_⟩
  · rw [List.length_map]
    exact Nat.lt_of_le_of_lt (Nat.le_trans lm hn) (by decide)
  · rintro i ρ S ⟨x, m, rfl, rfl⟩
    unfold Src.at_
    simp only [eq2, Option.map_some]
  · rintro i ρ S d ⟨x, m, rfl, rfl⟩ hd
    rw [List.getElem?_map] at hd
    obtain ⟨j, _, rfl⟩ := Option.map_eq_some_iff.mp hd
    refine ⟨_, rfl, ws_set ?_⟩
    simp only [r_Bin, r_V, r_C, t1, t2, t3, g0, g1, g2, g3, bind_ok, d_mul _ _ _ (m1 _), d_mod _ _ _ o2, d_mod _ _ _ o4, d_add, ofO_some, wp_ok]
    exact ⟨_, _, rfl, trivial⟩
  · rintro ρ S ⟨x, m, rfl, rfl⟩
    exact tail x m
theorem hand_ok {b0 b1 b2 b3 b4 : Int} (ok : HandOk b1 b2 b4 = true) {ns : List Int} (hn : ns.length ≤ 63) :
    WP (runB 4 (mHand b0 b1 b2 b3 b4) [.ref 0] [.fz (ns.map D.int)]) fun r S' => ∃ h c, r = .ref h ∧ Hand h c S' :=
  (hand_ok2 ok hn).mono fun _ _ ⟨h, c, a, b, _⟩ => ⟨h, c, a, b⟩
end DL

/-! the D-layer: what is read of data, and how long its text is -/
namespace DL
open PySem L2

/-! ### reading, the cells at A left out -/
def gQ (A : List Nat) : Nat → Sto → Nat → Option PyData
  | 0, _, _ => none
  | k + 1, S, n => if n ∈ A then none else match S[n]? with
    | some (.lst xs) => (toPws (gQ A k S) xs).map .list
    | some (.fz xs) => (toPws (gQ A k S) xs).map .list
    | some (.dct kvs) => (toPws (gQ A k S) (kvs.map (·.2))).map fun ps => .dict ((kvs.map fun kv => keyP kv.1).zip ps)
    | _ => none
def see (A : List Nat) (k : Nat) (S : Sto) (d : D) : Option PyData := toPw (gQ A k S) d
def sees (A : List Nat) (k : Nat) (S : Sto) (ds : List D) : Option (List PyData) := toPws (gQ A k S) ds
mutual
theorem toPw_mono {g g' : Nat → Option PyData} (h : ∀ n p, g n = some p → g' n = some p) : ∀ {d : D} {p : PyData}, toPw g d = some p → toPw g' d = some p
  | .non, p, e => by simpa only [toPw] using e
  | .bl b, p, e => by simpa only [toPw] using e
  | .int i, p, e => by simpa only [toPw] using e
  | .str x, p, e => by simpa only [toPw] using e
  | .raw u, p, e => by simp only [toPw] at e; cases e
  | .ref n, p, e => by simp only [toPw] at e ⊢; exact h _ _ e
  | .tup xs, p, e => by
    simp only [toPw] at e ⊢
    obtain ⟨ps, e1, rfl⟩ := Option.map_eq_some_iff.mp e
    rw [toPws_mono h e1]; rfl
theorem toPws_mono {g g' : Nat → Option PyData} (h : ∀ n p, g n = some p → g' n = some p) : ∀ {ds : List D} {ps : List PyData}, toPws g ds = some ps → toPws g' ds = some ps
  | [], ps, e => by simpa only [toPws] using e
  | d :: ds, ps, e => by
    simp only [toPws] at e ⊢
    obtain ⟨p, e1, e2⟩ := Option.bind_eq_some_iff.mp e
    obtain ⟨qs, e3, rfl⟩ := Option.map_eq_some_iff.mp e2
    rw [toPw_mono h e1, Option.bind_some, toPws_mono h e3]; rfl
end
theorem gQ_move {A B : List Nat} {S S' : Sto} (h : ∀ n x, n ∉ A → S[n]? = some x → n ∉ B ∧ S'[n]? = some x) : ∀ {k k' n : Nat} {p : PyData}, k ≤ k' → gQ A k S n = some p → gQ B k' S' n = some p
  | 0, _, _, _, _, e => by simp only [gQ] at e; cases e
  | k + 1, 0, _, _, hk, _ => by omega
  | k + 1, k' + 1, n, p, hk, e => by
    have ih : ∀ n p, gQ A k S n = some p → gQ B k' S' n = some p := fun n p => gQ_move h (by omega)
    unfold gQ at e ⊢
    split at e
    · cases e
    · rename_i hn
      split at e
      · rename_i xs ex
        obtain ⟨h1, h2⟩ := h n _ hn ex
        obtain ⟨ps, e1, rfl⟩ := Option.map_eq_some_iff.mp e
        rw [if_neg h1, h2]
        simp only [toPws_mono ih e1, Option.map_some]
      · rename_i xs ex
        obtain ⟨h1, h2⟩ := h n _ hn ex
        obtain ⟨ps, e1, rfl⟩ := Option.map_eq_some_iff.mp e
        rw [if_neg h1, h2]
        simp only [toPws_mono ih e1, Option.map_some]
      · rename_i xs ex
        obtain ⟨h1, h2⟩ := h n _ hn ex
        obtain ⟨ps, e1, rfl⟩ := Option.map_eq_some_iff.mp e
        rw [if_neg h1, h2]
        simp only [toPws_mono ih e1, Option.map_some]
      · cases e
theorem gQ_gP {A : List Nat} {S : Sto} : ∀ {k k' n : Nat} {p : PyData}, k ≤ k' → gQ A k S n = some p → gP k' S n = some p
  | 0, _, _, _, _, e => by simp only [gQ] at e; cases e
  | k + 1, 0, _, _, hk, _ => by omega
  | k + 1, k' + 1, n, p, hk, e => by
    have ih : ∀ n p, gQ A k S n = some p → gP k' S n = some p := fun n p => gQ_gP (by omega)
    unfold gQ at e
    unfold gP
    split at e
    · cases e
    · split at e
      · rename_i xs ex
        obtain ⟨ps, e1, rfl⟩ := Option.map_eq_some_iff.mp e
        try rw [ex]
        simp only [toPws_mono ih e1, Option.map_some]
      · rename_i xs ex
        obtain ⟨ps, e1, rfl⟩ := Option.map_eq_some_iff.mp e
        try rw [ex]
        simp only [toPws_mono ih e1, Option.map_some]
      · rename_i xs ex
        obtain ⟨ps, e1, rfl⟩ := Option.map_eq_some_iff.mp e
        try rw [ex]
        simp only [toPws_mono ih e1, Option.map_some]
      · cases e
section
variable {A B : List Nat} {k k' : Nat} {S S' : Sto} {d : D} {ds : List D} {p : PyData} {ps : List PyData}
theorem see_toP (e : see A k S d = some p) (h : k ≤ LEV) : toP S d = some p := toPw_mono (fun _ _ => gQ_gP h) e
theorem see_move (h : ∀ n x, n ∉ A → S[n]? = some x → n ∉ B ∧ S'[n]? = some x) (hk : k ≤ k') (e : see A k S d = some p) : see B k' S' d = some p := toPw_mono (fun _ _ => gQ_move h hk) e
theorem sees_move (h : ∀ n x, n ∉ A → S[n]? = some x → n ∉ B ∧ S'[n]? = some x) (hk : k ≤ k') (e : sees A k S ds = some ps) : sees B k' S' ds = some ps := toPws_mono (fun _ _ => gQ_move h hk) e
theorem see_stp (x : Stp A S S') (e : see A k S d = some p) : see A k S' d = some p := see_move (fun n c hn h => ⟨hn, x.2 n c hn h⟩) (Nat.le_refl _) e
theorem sees_stp (x : Stp A S S') (e : sees A k S ds = some ps) : sees A k S' ds = some ps := sees_move (fun n c hn h => ⟨hn, x.2 n c hn h⟩) (Nat.le_refl _) e
theorem see_le (h : k ≤ k') (e : see A k S d = some p) : see A k' S d = some p := see_move (fun n c hn h => ⟨hn, h⟩) h e
theorem sees_le (h : k ≤ k') (e : sees A k S ds = some ps) : sees A k' S ds = some ps := sees_move (fun n c hn h => ⟨hn, h⟩) h e
theorem see_sub (h : ∀ n, n ∈ B → n ∈ A) (e : see A k S d = some p) : see B k S d = some p := see_move (fun n c hn q => ⟨fun z => hn (h n z), q⟩) (Nat.le_refl _) e
/-- what is new may be left out, too -/
theorem see_out (h : ∀ n, n ∈ B → n ∈ A ∨ S.length ≤ n) (x : Stp A S S') (e : see A k S d = some p) : see B k S' d = some p := see_move (fun n c hn q => ⟨fun z => by
  rcases h n z with w | w
  · exact hn w
  · have := (List.getElem?_eq_some_iff.mp q).1; omega, x.2 n c hn q⟩) (Nat.le_refl _) e
theorem sees_out (h : ∀ n, n ∈ B → n ∈ A ∨ S.length ≤ n) (x : Stp A S S') (e : sees A k S ds = some ps) : sees B k S' ds = some ps := sees_move (fun n c hn q => ⟨fun z => by
  rcases h n z with w | w
  · exact hn w
  · have := (List.getElem?_eq_some_iff.mp q).1; omega, x.2 n c hn q⟩) (Nat.le_refl _) e
@[simp] theorem see_non : see A k S .non = some .none := by simp only [see, toPw]
@[simp] theorem see_bl (b : Bool) : see A k S (.bl b) = some (.bool b) := by simp only [see, toPw]
@[simp] theorem see_int (i : Int) : see A k S (.int i) = some (.int i) := by simp only [see, toPw]
@[simp] theorem see_str (x : Str) : see A k S (.str x) = some (.str x) := by simp only [see, toPw]
theorem see_tup (e : sees A k S ds = some ps) : see A k S (.tup ds) = some (.tuple ps) := by
  unfold sees at e
  unfold see
  simp only [toPw, e, Option.map_some]
theorem see_lst {n : Nat} (h : S[n]? = some (.lst ds)) (hn : n ∉ A) (e : sees A k S ds = some ps) : see A (k + 1) S (.ref n) = some (.list ps) := by
  unfold sees at e
  unfold see
  simp only [toPw, gQ, if_neg hn, h, e, Option.map_some]
theorem see_dct0 {n : Nat} (h : S[n]? = some (.dct [])) (hn : n ∉ A) : see A (k + 1) S (.ref n) = some (.dict []) := by
  unfold see
  simp only [toPw, gQ, if_neg hn, h, List.map_nil, toPws, Option.map_some, List.zip_nil_left]
@[simp] theorem sees_nil : sees A k S [] = some [] := by simp only [sees, toPws]
theorem sees_cons (e : see A k S d = some p) (es : sees A k S ds = some ps) : sees A k S (d :: ds) = some (p :: ps) := by
  unfold see at e
  unfold sees at es ⊢
  simp only [toPws, e, es, Option.bind_some, Option.map_some]
theorem sees_inv (e : sees A k S (d :: ds) = some ps) : ∃ p qs, ps = p :: qs ∧ see A k S d = some p ∧ sees A k S ds = some qs := by
  unfold sees at e
  simp only [toPws] at e
  obtain ⟨p, e1, e2⟩ := Option.bind_eq_some_iff.mp e
  obtain ⟨qs, e3, rfl⟩ := Option.map_eq_some_iff.mp e2
  exact ⟨p, qs, rfl, e1, e3⟩
theorem sees_len : ∀ {ds : List D} {ps : List PyData}, sees A k S ds = some ps → ps.length = ds.length
  | [], ps, e => by simp only [sees_nil, Option.some.injEq] at e; subst e; rfl
  | d :: ds, ps, e => by
    obtain ⟨p, qs, rfl, _, e2⟩ := sees_inv e
    rw [List.length_cons, List.length_cons, sees_len e2]
theorem sees_append : ∀ {ds es : List D} {ps qs : List PyData}, sees A k S ds = some ps → sees A k S es = some qs → sees A k S (ds ++ es) = some (ps ++ qs)
  | [], es, ps, qs, e, e' => by simp only [sees_nil, Option.some.injEq] at e; subst e; exact e'
  | d :: ds, es, ps, qs, e, e' => by
    obtain ⟨p, ps', rfl, e1, e2⟩ := sees_inv e
    exact sees_cons e1 (sees_append e2 e')
theorem sees_take : ∀ (n : Nat) {ds : List D} {ps : List PyData}, sees A k S ds = some ps → sees A k S (ds.take n) = some (ps.take n)
  | 0, _, _, _ => by simp only [List.take_zero, sees_nil]
  | n + 1, [], ps, e => by simp only [sees_nil, Option.some.injEq] at e; subst e; simp only [List.take_nil, sees_nil]
  | n + 1, d :: ds, ps, e => by
    obtain ⟨p, ps', rfl, e1, e2⟩ := sees_inv e
    exact sees_cons e1 (sees_take n e2)
theorem sees_drop : ∀ (n : Nat) {ds : List D} {ps : List PyData}, sees A k S ds = some ps → sees A k S (ds.drop n) = some (ps.drop n)
  | 0, _, _, e => e
  | n + 1, [], ps, e => by simp only [sees_nil, Option.some.injEq] at e; subst e; simp only [List.drop_nil, sees_nil]
  | n + 1, d :: ds, ps, e => by
    obtain ⟨p, ps', rfl, e1, e2⟩ := sees_inv e
    exact sees_drop n e2
theorem sees_get : ∀ {ds : List D} {ps : List PyData} {i : Nat} {d : D}, sees A k S ds = some ps → ds[i]? = some d → ∃ p, ps[i]? = some p ∧ see A k S d = some p
  | [], _, _, _, _, h => by simp at h
  | d :: ds, ps, 0, d', e, h => by
    obtain ⟨p, ps', rfl, e1, e2⟩ := sees_inv e
    simp at h; subst h
    exact ⟨p, rfl, e1⟩
  | d :: ds, ps, i + 1, d', e, h => by
    obtain ⟨p, ps', rfl, e1, e2⟩ := sees_inv e
    simpa using sees_get (i := i) e2 (by simpa using h)
theorem sees_strs : ∀ ys : List Str, sees A k S (ys.map D.str) = some (ys.map PyData.str)
  | [] => sees_nil
  | y :: ys => sees_cons (see_str y) (sees_strs ys)
theorem see_tup_inv (e : see A k S (.tup ds) = some p) : ∃ ps, p = .tuple ps ∧ sees A k S ds = some ps := by
  unfold see at e
  simp only [toPw] at e
  obtain ⟨ps, e1, rfl⟩ := Option.map_eq_some_iff.mp e
  exact ⟨ps, rfl, e1⟩
end

/-! ### how long the texts are -/
mutual
def fit : PyData → Bool
  | .none => true
  | .bool _ => true
  | .int i => decide (i.natAbs < 10000000000)
  | .str x => x.cps.toList.all fun c => decide (c < 4294967296)
  | .list xs => fits xs
  | .tuple xs => fits xs
  | .dict kvs => fitK kvs
def fits : List PyData → Bool
  | [] => true
  | x :: xs => fit x && fits xs
def fitK : List (PyData × PyData) → Bool
  | [] => true
  | (k, v) :: r => fit k && fit v && fitK r
end
mutual
def wt : PyData → Nat
  | .none => 4
  | .bool _ => 5
  | .int _ => 12
  | .str x => 10 * x.length + 2
  | .list xs => 3 + wts xs
  | .tuple xs => 3 + wts xs
  | .dict kvs => 3 + wtK kvs
def wts : List PyData → Nat
  | [] => 0
  | x :: xs => (wt x + 2) + wts xs
def wtK : List (PyData × PyData) → Nat
  | [] => 0
  | (k, v) :: r => (wt k + wt v + 4) + wtK r
end
theorem textFrom_size : ∀ (ts : List Str) (k : Nat) (acc : Str), (textFrom k acc ts).length ≤ acc.length + piled ts
  | [], k, acc => by show acc.length ≤ _; omega
  | t :: r, k, acc => by
    show (textFrom (k + 1) (acc ++ (if k > 0 then ", " else "" : String) ++ t) r).length ≤ _
    have ih := textFrom_size r (k + 1) (acc ++ (if k > 0 then ", " else "" : String) ++ t)
    rw [strLen_append, strLen_append] at ih
    have e : (((if k > 0 then ", " else "" : String) : Str)).length ≤ 2 := by split <;> decide
    rw [piled_cons]; omega
theorem listText_size (ts : List Str) : (listText ts).length ≤ 3 + piled ts := by
  unfold listText
  rw [strLen_append]
  have := textFrom_size ts 0 "["
  have e1 : ((("[" : String) : Str)).length = 1 := rfl
  have e2 : ((("]" : String) : Str)).length = 1 := rfl
  omega
theorem tupleText_size (ts : List Str) : (tupleText ts).length ≤ 3 + piled ts := by
  unfold tupleText
  rw [strLen_append, strLen_append]
  have e1 : ((("(" : String) : Str)).length = 1 := rfl
  have e3 : (((if ts.length == 1 then ",)" else ")" : String) : Str)).length ≤ 2 := by split <;> decide
  by_cases h : ts = []
  · subst h
    have e2 : (Str.join ", " []).length = 0 := rfl
    omega
  · have := join_length_add ts h
    omega
theorem dictText_size (ts : List Str) : (dictText ts).length ≤ 3 + piled ts := by
  unfold dictText
  rw [strLen_append, strLen_append]
  have e1 : ((("{" : String) : Str)).length = 1 := rfl
  have e3 : ((("}" : String) : Str)).length = 1 := rfl
  by_cases h : ts = []
  · subst h
    have e2 : (Str.join ", " []).length = 0 := rfl
    omega
  · have := join_length_add ts h
    omega
theorem small_int {i : Int} (h : i.natAbs < 10) : i = -9 ∨ i = -8 ∨ i = -7 ∨ i = -6 ∨ i = -5 ∨ i = -4 ∨ i = -3 ∨ i = -2 ∨ i = -1 ∨ i = 0 ∨ i = 1 ∨ i = 2 ∨ i = 3 ∨ i = 4 ∨ i = 5 ∨ i = 6 ∨ i = 7 ∨ i = 8 ∨ i = 9 := by omega
theorem nat_text {n : Nat} (h : n < 10 ^ 10) : (toString (Int.ofNat n)).length ≤ 10 := by
  have e : (Nat.repr n).length ≤ 10 := by
    have := PyProof.Rows.digits10_le (k := 10) (by decide) h
    simpa [Nat.repr] using this
  exact e
theorem int_size {i : Int} (h : i.natAbs < 10000000000) : (PyData.shown (.int i)).length ≤ 12 ∧ i.natAbs.log2 < 1920 := by
  refine ⟨?_, ?_⟩
  rotate_left
  · by_cases z : i.natAbs = 0
    · rw [z]; decide
    · exact Nat.lt_trans ((Nat.log2_lt z).mpr (show i.natAbs < 2 ^ 40 by omega)) (by decide)
  show (Str.ofString (toString i)).length ≤ 12
  cases i with
  | ofNat n =>
    rw [PyProof.Rows.ofString_len]
    have := nat_text (n := n) h
    omega
  | negSucc m =>
    rw [PyProof.Rows.len_text_neg (Int.negSucc_lt_zero m), PyProof.Rows.ofString_len]
    have e : (0 : Int) - Int.negSucc m = Int.ofNat (m + 1) := by
      rw [Int.negSucc_eq]
      show (0 : Int) - -((m : Int) + 1) = ((m + 1 : Nat) : Int)
      omega
    rw [e]
    have := nat_text (n := m + 1) (by simpa using h)
    omega
mutual
theorem shown_size : ∀ p : PyData, fit p = true → (PyData.shown p).length ≤ wt p ∧ PyData.showable p = true
  | .none, _ => ⟨by decide, rfl⟩
  | .bool b, _ => ⟨by cases b <;> decide, rfl⟩
  | .int i, h => by
    simp only [fit, decide_eq_true_eq] at h
    obtain ⟨a, b⟩ := int_size h
    exact ⟨by simpa only [wt] using a, by simp only [PyData.showable, decide_eq_true_eq]; exact b⟩
  | .str x, h => by
    simp only [fit, List.all_eq_true, decide_eq_true_eq] at h
    refine ⟨?_, by simp only [PyData.showable]⟩
    simp only [PyData.shown, wt]
    exact PySem.StrLaws.reprText_len x fun c hc => h c hc
  | .list xs, h => by
    simp only [fit] at h
    obtain ⟨a, b⟩ := shown_sizes xs h
    refine ⟨?_, by simp only [PyData.showable]; exact b⟩
    simp only [PyData.shown, wt]
    exact Nat.le_trans (listText_size _) (by omega)
  | .tuple xs, h => by
    simp only [fit] at h
    obtain ⟨a, b⟩ := shown_sizes xs h
    refine ⟨?_, by simp only [PyData.showable]; exact b⟩
    simp only [PyData.shown, wt]
    exact Nat.le_trans (tupleText_size _) (by omega)
  | .dict kvs, h => by
    simp only [fit] at h
    obtain ⟨a, b⟩ := shown_sizeK kvs h
    refine ⟨?_, by simp only [PyData.showable]; exact b⟩
    simp only [PyData.shown, wt]
    exact Nat.le_trans (dictText_size _) (by omega)
theorem shown_sizes : ∀ xs : List PyData, fits xs = true → piled (PyData.shownAll xs) ≤ wts xs ∧ PyData.showableAll xs = true
  | [], _ => ⟨Nat.le_refl _, rfl⟩
  | x :: xs, h => by
    simp only [fits, Bool.and_eq_true] at h
    obtain ⟨a, b⟩ := shown_size x h.1
    obtain ⟨a', b'⟩ := shown_sizes xs h.2
    refine ⟨?_, by simp only [PyData.showableAll, b, b', Bool.and_self]⟩
    simp only [PyData.shownAll, piled_cons, wts]
    omega
theorem shown_sizeK : ∀ xs : List (PyData × PyData), fitK xs = true → piled (PyData.shownKv xs) ≤ wtK xs ∧ PyData.showableKv xs = true
  | [], _ => ⟨Nat.le_refl _, rfl⟩
  | (k, v) :: xs, h => by
    simp only [fitK, Bool.and_eq_true] at h
    obtain ⟨a, b⟩ := shown_size k h.1.1
    obtain ⟨c, d⟩ := shown_size v h.1.2
    obtain ⟨a', b'⟩ := shown_sizeK xs h.2
    refine ⟨?_, by simp only [PyData.showableKv, b, d, b', Bool.and_self]⟩
    simp only [PyData.shownKv, piled_cons, wtK, strLen_append]
    have e : (((": " : String) : Str)).length = 2 := rfl
    omega
end
theorem okRepr_of {p : PyData} (h1 : fit p = true) (h2 : wt p ≤ 16777216) (h3 : p.depth ≤ 60) : okRepr p = true := by
  obtain ⟨a, b⟩ := shown_size p h1
  unfold okRepr
  rw [b, decide_eq_true h3, decide_eq_true (Nat.le_trans a (Nat.le_trans h2 (by decide)))]
  rfl
/-- repr(x) -/
theorem repr_ok {A : List Nat} {k : Nat} {S : Sto} {d : D} {p : PyData} (e : see A k S d = some p) (hk : k ≤ LEV) (h1 : fit p = true) (h2 : wt p ≤ 16777216) (h3 : p.depth ≤ 60) : bRepr [d] S = some (.str p.shown, S) := by
  unfold bRepr
  simp only [see_toP e hk, Option.bind_some, if_pos (okRepr_of h1 h2 h3)]
end DL

/-! the D-layer: types, comprehensions without a change, the texts' laws -/
namespace DL
open PySem L2

/-! ### comprehensions that change nothing -/
theorem seq_push {S : Sto} {n : Nat} {xs ys : List D} (e : seqAt S n = some xs) : seqAt (S ++ [.lst ys]) n = some xs := seq_stp (A := []) .push (by simp) e
theorem wp_lc {ms : IM} {t : Tg} {c : TM} {el : EM} {vs : List Nat} {ρ : Ev} {S : Sto} (xs : List D) (b : D → Bool) (v : D → D) (src : Src)
    (hs : WP (ms ρ S) fun s S1 => s = src ∧ Stp [] S S1) (hat : ∀ S', Stp [] S S' → ∀ i, src.at_ i S' = some xs[i]?) (hl : xs.length < 2 ^ 24)
    (hc : ∀ d ∈ xs, ∃ ρ1, t.put d (wipeE ρ vs) = some ρ1 ∧ ∀ S', Stp [] S S' → WP (c ρ1 S') fun k S1 => k = b d ∧ Stp [] S' S1 ∧ (k = true → WP (el ρ1 S1) fun y S2 => y = v d ∧ Stp [] S1 S2)) :
    WP (mLc ms t c el vs ρ S) fun r S' => ∃ a, r = .ref a ∧ S'[a]? = some (.lst ((xs.filter b).map v)) ∧ Stp [] S S' ∧ S.length ≤ a := by
  rw [r_Lc, wp_bind]
  refine hs.mono fun s S1 hh => ?_
  obtain ⟨rfl, st⟩ := hh
  have st1 : Stp [] S (S1 ++ [.lst []]) := st.trans .push
  refine wp_loopC xs (fun i acc S' => acc = ((xs.take i).filter b).map v ∧ Stp [] S S' ∧ S'[S1.length]? = some (.lst acc)) (fun i acc S' h => ?_) (fun i acc S' d h hd => ?_) hl (fun acc S' h => ?_) FUEL 0 [] _ ⟨rfl, st1, by simp⟩ (Nat.zero_le _) (by unfold FUEL; omega)
  · obtain ⟨rfl, h2, h3⟩ := h
    refine ⟨hat S' h2 i, ?_⟩
    rw [List.length_map]
    refine Nat.le_trans (List.length_filter_le _ _) ?_
    rw [List.length_take]; omega
  · obtain ⟨ea, h2, h3⟩ := h
    obtain ⟨ρ1, e1, h⟩ := hc d (List.mem_of_getElem? hd)
    refine ⟨ρ1, e1, (h S' h2).mono fun k S2 hh => ?_⟩
    obtain ⟨ek, st2, hv⟩ := hh
    have et : xs.take (i + 1) = xs.take i ++ [d] := by
      rw [List.take_add_one, hd]; rfl
    constructor
    · intro hk
      refine (hv hk).mono fun y S3 hh => ?_
      obtain ⟨rfl, st3⟩ := hh
      have e3 : S3[S1.length]? = some (.lst acc) := st3.at_ (by simp) (st2.at_ (by simp) h3)
      refine ⟨e3, ?_, (h2.trans (st2.trans st3)).new st.1, ?_⟩
      · rw [et, List.filter_append, List.map_append, ea, List.filter_cons, if_pos (by rw [← ek]; exact hk)]; rfl
      · rw [List.getElem?_set_self (List.getElem?_eq_some_iff.mp e3).1]
    · intro hk
      refine ⟨?_, h2.trans st2, st2.at_ (by simp) h3⟩
      rw [et, List.filter_append, List.map_append, ea, List.filter_cons, if_neg (by rw [← ek, hk]; simp)]
      simp
  · obtain ⟨ea, h2, h3⟩ := h
    rw [List.take_length] at ea
    subst ea
    exact ⟨S1.length, rfl, h3, h2, st.1⟩
theorem at_tup {xs : List D} {S : Sto} (i : Nat) : (Src.tup xs).at_ i S = some xs[i]? := rfl
def signs (z : Str) : List D := z.cps.toList.map fun c => .str ⟨#[c]⟩
theorem at_str {z : Str} {S : Sto} (i : Nat) : (Src.str z).at_ i S = some (signs z)[i]? := by
  unfold Src.at_ signs
  simp [List.getElem?_map]
theorem at_rng {lo : Int} {n : Nat} {S : Sto} (i : Nat) : (Src.rng lo n).at_ i S = some ((List.range n).map fun (j : Nat) => D.int (lo + (j : Int)))[i]? := by
  unfold Src.at_
  dsimp only
  rw [List.getElem?_map]
  by_cases h : i < n
  · rw [if_pos h, List.getElem?_range h]; rfl
  · rw [if_neg h, List.getElem?_eq_none (by simpa using h)]; rfl
theorem at_lst {n : Nat} {xs : List D} {S S' : Sto} (e : seqAt S n = some xs) (st : Stp [] S S') (i : Nat) : (Src.lst n).at_ i S' = some xs[i]? := by
  unfold Src.at_
  simp only [seq_stp st (by simp) e, Option.map_some]
theorem blsD_map : ∀ bs : List Bool, blsD (bs.map .bl) = some bs
  | [] => rfl
  | b :: bs => by simp only [List.map_cons, blsD, blsD_map bs, Option.map_some]
theorem strsD_map : ∀ bs : List Str, strsD (bs.map .str) = some bs
  | [] => rfl
  | b :: bs => by simp only [List.map_cons, strsD, strsD_map bs, Option.map_some]
theorem all_ok {S : Sto} {a : Nat} {bs : List Bool} (e : S[a]? = some (.lst (bs.map .bl))) : bAll [.ref a] S = some (.bl (bs.all id), S) := by
  unfold bAll seqB
  have : seqAt S a = some (bs.map .bl) := by unfold seqAt; rw [e]
  simp only [this, Option.bind_some, blsD_map, Option.map_some]

/-! ### types -/
def tyP : PyData → String
  | .none => "NoneType"
  | .bool _ => "bool"
  | .int _ => "int"
  | .str _ => "str"
  | .list _ => "list"
  | .tuple _ => "tuple"
  | .dict _ => "dict"
def isS : PyData → Bool
  | .str _ => true
  | _ => false
def isT : PyData → Bool
  | .tuple _ => true
  | _ => false
theorem kS (p : PyData) : kitB (tyP p) "str" = some (isS p) := by cases p <;> simp only [tyP, isS] <;> decide +kernel
theorem kT (p : PyData) : kitB (tyP p) "tuple" = some (isT p) := by cases p <;> simp only [tyP, isT] <;> decide +kernel
section
variable {A : List Nat} {k : Nat} {S : Sto} {d : D} {p : PyData}
theorem see_ty (e : see A k S d = some p) : tyD S d = some (tyP p) := by
  unfold see at e
  cases d with
  | non => simp only [toPw, Option.some.injEq] at e; subst e; rfl
  | bl b => simp only [toPw, Option.some.injEq] at e; subst e; rfl
  | int i => simp only [toPw, Option.some.injEq] at e; subst e; rfl
  | str x => simp only [toPw, Option.some.injEq] at e; subst e; rfl
  | tup xs => simp only [toPw] at e; obtain ⟨ps, _, rfl⟩ := Option.map_eq_some_iff.mp e; rfl
  | raw u => simp only [toPw] at e; cases e
  | ref n =>
    simp only [toPw] at e
    cases k with
    | zero => simp only [gQ] at e; cases e
    | succ k =>
      unfold gQ at e
      split at e
      · cases e
      · split at e
        · rename_i xs ex; obtain ⟨ps, _, rfl⟩ := Option.map_eq_some_iff.mp e; simp only [tyD, ex, tyP]
        · rename_i xs ex; obtain ⟨ps, _, rfl⟩ := Option.map_eq_some_iff.mp e; simp only [tyD, ex, tyP]
        · rename_i xs ex; obtain ⟨ps, _, rfl⟩ := Option.map_eq_some_iff.mp e; simp only [tyD, ex, tyP]
        · cases e
theorem isi_str (e : see A k S d = some p) : bIsi [d, .raw (.ty "str")] S = some (.bl (isS p), S) := by
  unfold bIsi
  simp only [see_ty e, Option.bind_some, kS, Option.map_some]
theorem isi_tup (e : see A k S d = some p) : bIsi [d, .raw (.ty "tuple")] S = some (.bl (isT p), S) := by
  unfold bIsi
  simp only [see_ty e, Option.bind_some, kT, Option.map_some]
theorem see_S (e : see A k S d = some p) (h : isS p = true) : ∃ z, p = .str z ∧ d = .str z := by
  cases p <;> simp only [isS] at h <;> first | cases h | skip
  rename_i z
  refine ⟨z, rfl, ?_⟩
  unfold see at e
  cases d with
  | str x => simp only [toPw, Option.some.injEq] at e; cases e; rfl
  | tup xs => simp only [toPw] at e; obtain ⟨ps, _, h⟩ := Option.map_eq_some_iff.mp e; cases h
  | ref n =>
    simp only [toPw] at e
    cases k with
    | zero => simp only [gQ] at e; cases e
    | succ k =>
      unfold gQ at e
      split at e
      · cases e
      · split at e
        · obtain ⟨ps, _, h⟩ := Option.map_eq_some_iff.mp e; cases h
        · obtain ⟨ps, _, h⟩ := Option.map_eq_some_iff.mp e; cases h
        · obtain ⟨ps, _, h⟩ := Option.map_eq_some_iff.mp e; cases h
        · cases e
  | _ => simp only [toPw] at e; cases e
theorem see_T (e : see A k S d = some p) (h : isT p = true) : ∃ ps xs, p = .tuple ps ∧ d = .tup xs ∧ sees A k S xs = some ps := by
  cases p <;> simp only [isT] at h <;> first | cases h | skip
  rename_i qs
  unfold see at e
  cases d with
  | tup xs => simp only [toPw] at e; obtain ⟨ps, e1, h⟩ := Option.map_eq_some_iff.mp e; cases h; exact ⟨_, xs, rfl, rfl, e1⟩
  | ref n =>
    simp only [toPw] at e
    cases k with
    | zero => simp only [gQ] at e; cases e
    | succ k =>
      unfold gQ at e
      split at e
      · cases e
      · split at e
        · obtain ⟨ps, _, h⟩ := Option.map_eq_some_iff.mp e; cases h
        · obtain ⟨ps, _, h⟩ := Option.map_eq_some_iff.mp e; cases h
        · obtain ⟨ps, _, h⟩ := Option.map_eq_some_iff.mp e; cases h
        · cases e
  | _ => simp only [toPw] at e; cases e
end

/-! ### what is small -/
structure Lim (w d : Nat) (p : PyData) : Prop where
  f : fit p = true
  w : wt p ≤ w
  d : p.depth ≤ d
theorem Lim.mono {w w' d d' : Nat} {p : PyData} (l : Lim w d p) (hw : w ≤ w') (hd : d ≤ d') : Lim w' d' p := ⟨l.f, Nat.le_trans l.w hw, Nat.le_trans l.d hd⟩
theorem fits_all : ∀ {ps : List PyData}, fits ps = true ↔ ∀ p ∈ ps, fit p = true
  | [] => by simp [fits]
  | p :: ps => by simp [fits, fits_all (ps := ps)]
theorem depth_all {d : Nat} : ∀ {ps : List PyData}, PyData.depthAll ps ≤ d ↔ ∀ p ∈ ps, p.depth ≤ d
  | [] => by simp [PyData.depthAll]
  | p :: ps => by
    simp only [PyData.depthAll, List.mem_cons, forall_eq_or_imp]
    rw [← depth_all (ps := ps)]
    omega
theorem wts_eq : ∀ ps : List PyData, wts ps = (ps.map fun p => wt p + 2).sum
  | [] => by simp [wts]
  | p :: ps => by simp only [wts, List.map_cons, List.sum_cons, wts_eq ps]
theorem wts_app (ps qs : List PyData) : wts (ps ++ qs) = wts ps + wts qs := by simp [wts_eq]
theorem wts_mem {p : PyData} : ∀ {ps : List PyData}, p ∈ ps → wt p ≤ wts ps
  | q :: ps, h => by
    simp only [wts]
    rcases List.mem_cons.mp h with rfl | h
    · omega
    · have := wts_mem h; omega
theorem wts_take (n : Nat) (ps : List PyData) : wts (ps.take n) ≤ wts ps := by
  have := wts_app (ps.take n) (ps.drop n)
  rw [List.take_append_drop] at this
  omega
theorem wts_drop (n : Nat) (ps : List PyData) : wts (ps.drop n) ≤ wts ps := by
  have := wts_app (ps.take n) (ps.drop n)
  rw [List.take_append_drop] at this
  omega
theorem lim_tup {w d : Nat} {ps : List PyData} : Lim w d (.tuple ps) ↔ (∀ p ∈ ps, fit p = true) ∧ 3 + wts ps ≤ w ∧ PyData.depthAll ps + 1 ≤ d := by
  constructor
  · intro l
    exact ⟨fits_all.mp (by simpa only [fit] using l.f), by simpa only [wt] using l.w, by simpa only [PyData.depth] using l.d⟩
  · rintro ⟨a, b, c⟩
    exact ⟨by simpa only [fit] using fits_all.mpr a, by simpa only [wt] using b, by simpa only [PyData.depth] using c⟩
theorem Lim.mem {w d : Nat} {ps : List PyData} (l : Lim w d (.tuple ps)) {p : PyData} (h : p ∈ ps) : Lim w d p := by
  obtain ⟨a, b, c⟩ := lim_tup.mp l
  have h1 := wts_mem h
  have h2 := depth_all.mp (Nat.le_refl (PyData.depthAll ps)) p h
  exact ⟨a p h, by omega, by omega⟩
theorem Lim.len {w d : Nat} {z : Str} (l : Lim w d (.str z)) : 10 * z.length + 2 ≤ w := by simpa only [wt] using l.w
theorem wts_len : ∀ ps : List PyData, ps.length ≤ wts ps
  | [] => Nat.zero_le _
  | p :: ps => by simp only [wts, List.length_cons]; have := wts_len ps; omega

/-! ### repr(x) == "'T'" -/
theorem foldl_app (g : Nat → List Nat) : ∀ (l : List Nat) (acc : Array Nat), (l.foldl (fun out c => out ++ (g c).toArray) acc).toList = acc.toList ++ l.flatMap g
  | [], acc => by simp
  | c :: r, acc => by
    rw [List.foldl_cons, foldl_app g r]
    simp
theorem reprText_list (x : Str) : (reprText x).cps.toList = reprQuote x :: (x.cps.toList.flatMap (Builtin.Str.reprChar (reprQuote x)) ++ [reprQuote x]) := by
  unfold reprText
  show ((x.cps.foldl (fun out c => out ++ (Builtin.Str.reprChar (reprQuote x) c).toArray) #[reprQuote x]).push (reprQuote x)).toList = _
  rw [Array.toList_push, ← Array.foldl_toList, foldl_app]
  simp
theorem reprChar_pos (q c : Nat) : Builtin.Str.reprChar q c ≠ [] := by
  unfold Builtin.Str.reprChar
  dsimp only
  repeat' split
  all_goals simp
theorem reprChar_T {q c : Nat} (h : Builtin.Str.reprChar q c = [84]) : c = 84 := by
  unfold Builtin.Str.reprChar at h
  dsimp only at h
  repeat' split at h
  all_goals first | (simp only [List.cons.injEq, and_true] at h; exact h) | (simp at h)
theorem flat_T {q : Nat} {l : List Nat} (h : l.flatMap (Builtin.Str.reprChar q) = [84]) : l = [84] := by
  cases l with
  | nil => simp at h
  | cons c r =>
    rw [List.flatMap_cons] at h
    have hp := reprChar_pos q c
    cases e : Builtin.Str.reprChar q c with
    | nil => exact (hp e).elim
    | cons a b =>
      rw [e] at h
      simp only [List.cons_append, List.cons.injEq, List.append_eq_nil_iff] at h
      obtain ⟨rfl, rfl, h2⟩ := h
      have hc := reprChar_T e
      cases r with
      | nil => rw [hc]
      | cons c2 r2 =>
        rw [List.flatMap_cons, List.append_eq_nil_iff] at h2
        exact (reprChar_pos q c2 h2.1).elim
theorem str_list {a b : Str} (h : a.cps.toList = b.cps.toList) : a = b := by
  obtain ⟨⟨a⟩⟩ := a
  obtain ⟨⟨b⟩⟩ := b
  have : a = b := h
  rw [this]
theorem quote_list : (Str.ofString "'T'").cps.toList = [39, 84, 39] := by decide +kernel
theorem reprText_T {x : Str} (h : reprText x = Str.ofString "'T'") : x = Str.ofString "T" := by
  have := reprText_list x
  rw [h, quote_list] at this
  simp only [List.cons.injEq] at this
  obtain ⟨hq, h2⟩ := this
  have e : [84, 39] = x.cps.toList.flatMap (Builtin.Str.reprChar (reprQuote x)) ++ [reprQuote x] := h2
  have e2 : ([84] : List Nat) ++ [39] = x.cps.toList.flatMap (Builtin.Str.reprChar (reprQuote x)) ++ [reprQuote x] := e
  have := List.append_inj' e2 rfl
  exact str_list (by rw [flat_T this.1.symm]; decide +kernel)
theorem first_ne {x y : Str} {a b : Nat} (hx : x.cps.toList.head? = some a) (hy : y.cps.toList.head? = some b) (h : a ≠ b) : x ≠ y := fun z => by
  subst z
  rw [hx] at hy
  exact h (Option.some.inj hy)
theorem cps_append (a b : Str) : (a ++ b).cps.toList = a.cps.toList ++ b.cps.toList := by
  show (a.cps ++ b.cps).toList = _
  simp
theorem textFrom_head (t : List Str) : ∀ (k : Nat) (acc : Str) (c : Nat), acc.cps.toList.head? = some c → (textFrom k acc t).cps.toList.head? = some c := by
  induction t with
  | nil => exact fun _ _ _ h => h
  | cons x t ih =>
    intro k acc c h
    refine ih _ _ c ?_
    rw [cps_append, cps_append]
    simp [List.head?_append, h]
theorem shown_T {p : PyData} (hf : fit p = true) (hi : ∀ i, p = .int i → i.natAbs < 10) : (PyData.shown p = Str.ofString "'T'") ↔ p = .str (Str.ofString "T") := by
  constructor
  · intro h
    have hq : (Str.ofString "'T'").cps.toList.head? = some 39 := by decide +kernel
    cases p with
    | none => exact absurd h (by decide +kernel)
    | bool b => cases b <;> exact absurd h (by decide +kernel)
    | int i =>
      simp only [fit, decide_eq_true_eq] at hf
      rcases small_int (hi i rfl) with e | e | e | e | e | e | e | e | e | e | e | e | e | e | e | e | e | e | e <;> subst e <;> exact absurd h (by decide +kernel)
    | str x =>
      simp only [PyData.shown] at h
      rw [reprText_T h]
    | list xs =>
      refine absurd h (first_ne (a := 91) ?_ hq (by decide))
      simp only [PyData.shown]
      unfold listText
      rw [cps_append, List.head?_append, textFrom_head _ _ _ 91 (by decide +kernel)]
      rfl
    | tuple xs =>
      refine absurd h (first_ne (a := 40) ?_ hq (by decide))
      simp only [PyData.shown]
      unfold tupleText
      rw [cps_append, cps_append, List.append_assoc, List.head?_append]
      have : (Str.ofString "(").cps.toList.head? = some 40 := by decide +kernel
      rw [this]; rfl
    | dict xs =>
      refine absurd h (first_ne (a := 123) ?_ hq (by decide))
      simp only [PyData.shown]
      unfold dictText
      rw [cps_append, cps_append, List.append_assoc, List.head?_append]
      have : (Str.ofString "{").cps.toList.head? = some 123 := by decide +kernel
      rw [this]; rfl
  · intro h
    subst h
    decide +kernel
end DL

set_option maxHeartbeats 1000000
/-! the D-layer: zip of two tuples, strict -/
namespace DL
namespace Zs
open PySem PySem.Spec PyProof.Rows L2
open PySem.Sem (wp)
/-- a strict zip object -/
abbrev ZipS (g : Heap) (q tI tO : Addr) (own : Value) : Prop :=
  g.get? q = some { cls := .type "zip", dict := none, data := .fields #[own, .bool false, .bool true, .ref tI, .ref tO], slots := #[] }
section
variable {pr : Program} {wo : World} {Ar : Around} {Er : Value → Shared → Prop} {sh : Shared}
theorem orEnd_go {it tu : Addr} {n : Nat} {its} {v : Value} {R : Option Value → Shared → Prop} (a : sh.heap.IsTupleIter it tu n) (b : sh.heap.IsTuple tu its) (e : its[n]? = some v)
    (r : ∀ g, g.IsTupleIter it tu (n + 1) → Heap.SameBut it sh.heap g → R (some v) { sh with heap := g }) : wpAny (model pr wo) Ar (Builtin.SmallTypes.nextOrEnd (.ref it)) R Er sh := by
  unfold Builtin.SmallTypes.nextOrEnd
  exact wpAny_bind (wpAny_attempt (RZ.nextOf_tuple_item a b e fun g h1 h2 => wpAny_pure (r g h1 h2)))
theorem orEnd_stop {it tu : Addr} {n : Nat} {its} {R : Option Value → Shared → Prop} (cd : Ar.handled = none) (a : sh.heap.IsTupleIter it tu n) (b : sh.heap.IsTuple tu its) (e : its[n]? = none)
    (r : ∀ g, Heap.ExtBut it sh.heap g → R none { sh with heap := g }) : wpAny (model pr wo) Ar (Builtin.SmallTypes.nextOrEnd (.ref it)) R Er sh := by
  unfold Builtin.SmallTypes.nextOrEnd
  refine wpAny_bind (wpAny_attempt (RZ.nextOf_tuple_end cd a b e fun g ex h1 h2 => ?_))
  obtain ⟨oe, g1, g2⟩ := h2
  refine wpAny_bind (wpAny_isInstance (T := "StopIteration") (b := true) ⟨oe, g1, g2⟩ isSubtype_stop ?_)
  exact wpAny_pure (r g h1)
theorem next_go {q tI tO j1 j2 u1 u2 : Addr} {m1 m2 : Nat} {us vs : Array Value} {a b a0 b0 : Value} {R : Value → Shared → Prop} (D : ZipApart q tI tO j1 j2 u1 u2)
    (Z : ZipS sh.heap q tI tO .none) (pI : IsPair sh.heap tI (.ref j1) (.ref j2)) (pO : IsPair sh.heap tO a0 b0)
    (c1 : sh.heap.IsTupleIter j1 u1 m1) (c2 : sh.heap.IsTupleIter j2 u2 m2) (d1 : sh.heap.IsTuple u1 us) (d2 : sh.heap.IsTuple u2 vs) (ea : us[m1]? = some a) (eb : vs[m2]? = some b)
    (r : ∀ g, ZipS g q tI tO (rawInt sh.heap.objs.size) → IsPair g tO a b → g.IsTupleIter j1 u1 (m1 + 1) → g.IsTupleIter j2 u2 (m2 + 1) → IsPair g sh.heap.objs.size a b → g.objs.size = sh.heap.objs.size + 1 →
      (∀ k o, k ≠ q → k ≠ tO → k ≠ j1 → k ≠ j2 → sh.heap.get? k = some o → g.get? k = some o) → R (.ref sh.heap.objs.size) { sh with heap := g }) :
    wpAny (model pr wo) Ar (Builtin.«zip.__next__» ⟨[.ref q], []⟩) (fun fi s' => ∃ v, fi = .done (.ret v) ∧ R v s') Er sh := by
  show wpAny _ _ (field (.ref q) 2 >>= _) _ _ sh
  refine wpAny_bind (wpAny_field Z rfl (x := Value.bool true) rfl ?_)
  show wpAny _ _ (field (.ref q) 3 >>= _) _ _ sh
  refine wpAny_bind (wpAny_field Z rfl (x := Value.ref tI) rfl (wpAny_bind (wpAny_seqItems pI rfl ?_)))
  show wpAny _ _ (Builtin.SmallTypes.ownedTupleIsFree (.ref q) >>= _) _ _ sh
  refine wpAny_bind ?_
  unfold Builtin.SmallTypes.ownedTupleIsFree
  refine wpAny_bind (wpAny_field Z rfl (x := Value.none) rfl (wpAny_pure ?_))
  simp only [if_true]
  refine wpAny_bind (wpAny_rule (wpAny_bind (wpAny_field Z rfl (x := Value.ref tO) rfl ?_)))
  refine wpAny_bind (wpAny_setField_rec Z (by simp) fun g1 Z1 k1 => ?_)
  replace Z1 : ZipS g1 q tI tO .ellipsis := Z1
  refine wpAny_bind ?_
  simp only [List.zipIdx_cons, List.zipIdx_nil, List.forIn_cons, List.forIn_nil]
  -- the first one
  refine wpAny_bind (wpAny_bind (wpAny_onRaise ?_))
  show wpAny _ _ (Builtin.SmallTypes.nextOrEnd (.ref j1)) _ _ { sh with heap := g1 }
  refine orEnd_go (c1.extBut k1.extBut D.i1z) (d1.extBut k1.extBut D.l1z) ea fun g2 n1 k2 => ?_
  have pO2 : IsPair g2 tO a0 b0 := k2.extBut _ _ D.TOi1 (k1.extBut _ _ D.TOz pO)
  refine wpAny_bind (wpAny_seqItems pO2 rfl (wpAny_bind (wpAny_updateSeq_pair pO2 fun g3 pO3 k3 => ?_)))
  replace pO3 : IsPair g3 tO a b0 := pO3
  refine wpAny_bind (wpAny_letGo (wpAny_pure (wpAny_bind (wpAny_bind (wpAny_onRaise ?_)))))
  show wpAny _ _ (Builtin.SmallTypes.nextOrEnd (.ref j2)) _ _ { sh with heap := g3 }
  refine orEnd_go (((c2.extBut k1.extBut D.i2z).extBut k2.extBut D.i12.symm).extBut k3.extBut D.TOi2.symm) (((d2.extBut k1.extBut D.l2z).extBut k2.extBut D.l2i1).extBut k3.extBut D.l2TO) eb fun g4 n2 k4 => ?_
  have pO4 : IsPair g4 tO a b0 := k4.extBut _ _ D.TOi2 pO3
  refine wpAny_bind (wpAny_seqItems pO4 rfl (wpAny_bind (wpAny_updateSeq_pair pO4 fun g5 pO5 k5 => ?_)))
  replace pO5 : IsPair g5 tO a b := pO5
  refine wpAny_bind (wpAny_letGo (wpAny_pure (wpAny_pure ?_)))
  refine wpAny_bind (wpAny_seqItems pO5 rfl (wpAny_bind (wpAny_newTuple ?_)))
  have sz : g5.objs.size = sh.heap.objs.size := by rw [k5.1, k4.1, k3.1, k2.1, k1.1]
  have Z5 : ZipS g5 q tI tO .ellipsis := k5.extBut _ _ D.TOz.symm (k4.extBut _ _ D.i2z.symm (k3.extBut _ _ D.TOz.symm (k2.extBut _ _ D.i1z.symm Z1)))
  have all5 : ∀ k o, k ≠ q → k ≠ tO → k ≠ j1 → k ≠ j2 → sh.heap.get? k = some o → g5.get? k = some o := fun k o a1 a2 a3 a4 e =>
    k5.extBut _ _ a2 (k4.extBut _ _ a4 (k3.extBut _ _ a2 (k2.extBut _ _ a3 (k1.extBut _ _ a1 e))))
  have n15 : g5.IsTupleIter j1 u1 (m1 + 1) := ((n1.extBut k3.extBut D.TOi1.symm).extBut k4.extBut D.i12).extBut k5.extBut D.TOi1.symm
  have n25 : g5.IsTupleIter j2 u2 (m2 + 1) := n2.extBut k5.extBut D.TOi2.symm
  have ltq : q < g5.objs.size := Heap.lt_size Z5
  show wpAny _ _ (Builtin.SmallTypes.ownedTupleHandOut (.ref q) (.ref g5.objs.size) >>= _) _ _ _
  refine wpAny_bind ?_
  unfold Builtin.SmallTypes.ownedTupleHandOut
  have Z6 : ZipS (g5.push { cls := .type "tuple", data := .seq #[a, b] }) q tI tO .ellipsis := Heap.get?_push_of_some _ Z5
  refine wpAny_bind (wpAny_setField_rec Z6 (by simp) fun g7 Z7 k7 => ?_)
  replace Z7 : ZipS g7 q tI tO (rawInt g5.objs.size) := Z7
  refine wpAny_setField_rec Z7 (by simp) fun g8 Z8 k8 => ?_
  replace Z8 : ZipS g8 q tI tO (rawInt g5.objs.size) := Z8
  have up : ∀ k o, k ≠ q → g5.get? k = some o → g8.get? k = some o := fun k o a1 e => k8.extBut _ _ a1 (k7.extBut _ _ a1 (Heap.get?_push_of_some _ e))
  have T8 : IsPair g8 g5.objs.size a b := k8.extBut _ _ (Nat.ne_of_gt ltq) (k7.extBut _ _ (Nat.ne_of_gt ltq) (Heap.get?_push_size _ rfl))
  have sz8 : g8.objs.size = g5.objs.size + 1 := by rw [k8.1, k7.1, Heap.size_push]
  rw [sz] at Z8 T8 sz8
  refine wpAny_pure ⟨_, rfl, ?_⟩
  show R (.ref g5.objs.size) _
  rw [sz]
  exact r g8 Z8 (up _ _ D.TOz pO5) (n15.at fun o e => up _ o D.i1z e) (n25.at fun o e => up _ o D.i2z e) T8 sz8 fun k o a1 a2 a3 a4 e => up k o a1 (all5 k o a1 a2 a3 a4 e)
theorem next_stop {q tI tO j1 j2 u1 u2 : Addr} {m1 m2 : Nat} {us vs : Array Value} {a0 b0 : Value} {R : Fin → Shared → Prop} (cd : Ar.handled = none) (D : ZipApart q tI tO j1 j2 u1 u2)
    (Z : ZipS sh.heap q tI tO .none) (pI : IsPair sh.heap tI (.ref j1) (.ref j2)) (pO : IsPair sh.heap tO a0 b0)
    (c1 : sh.heap.IsTupleIter j1 u1 m1) (c2 : sh.heap.IsTupleIter j2 u2 m2) (d1 : sh.heap.IsTuple u1 us) (d2 : sh.heap.IsTuple u2 vs) (ea : us[m1]? = none) (eb : vs[m2]? = none)
    (r : ∀ g e, (∀ k o, k ≠ q → k ≠ tO → k ≠ j1 → k ≠ j2 → sh.heap.get? k = some o → g.get? k = some o) → (∃ o, g.get? e = some o ∧ o.cls = .type "StopIteration") → Er (.ref e) { sh with heap := g }) :
    wpAny (model pr wo) Ar (Builtin.«zip.__next__» ⟨[.ref q], []⟩) R Er sh := by
  show wpAny _ _ (field (.ref q) 2 >>= _) _ _ sh
  refine wpAny_bind (wpAny_field Z rfl (x := Value.bool true) rfl ?_)
  show wpAny _ _ (field (.ref q) 3 >>= _) _ _ sh
  refine wpAny_bind (wpAny_field Z rfl (x := Value.ref tI) rfl (wpAny_bind (wpAny_seqItems pI rfl ?_)))
  show wpAny _ _ (Builtin.SmallTypes.ownedTupleIsFree (.ref q) >>= _) _ _ sh
  refine wpAny_bind ?_
  unfold Builtin.SmallTypes.ownedTupleIsFree
  refine wpAny_bind (wpAny_field Z rfl (x := Value.none) rfl (wpAny_pure ?_))
  simp only [if_true]
  refine wpAny_bind (wpAny_rule (wpAny_bind (wpAny_field Z rfl (x := Value.ref tO) rfl ?_)))
  refine wpAny_bind (wpAny_setField_rec Z (by simp) fun g1 Z1 k1 => ?_)
  replace Z1 : ZipS g1 q tI tO .ellipsis := Z1
  refine wpAny_bind ?_
  simp only [List.zipIdx_cons, List.zipIdx_nil, List.forIn_cons, List.forIn_nil]
  refine wpAny_bind (wpAny_bind (wpAny_onRaise ?_))
  show wpAny _ _ (Builtin.SmallTypes.nextOrEnd (.ref j1)) _ _ { sh with heap := g1 }
  refine orEnd_stop cd (c1.extBut k1.extBut D.i1z) (d1.extBut k1.extBut D.l1z) ea fun g2 k2 => ?_
  have Z2 : ZipS g2 q tI tO .ellipsis := k2 _ _ D.i1z.symm Z1
  refine wpAny_bind (wpAny_setField_rec Z2 (by simp) fun g3 Z3 k3 => ?_)
  refine wpAny_bind ?_
  refine wpAny_bind ?_
  simp only [List.drop_succ_cons, List.drop_zero, List.zipIdx_cons, List.zipIdx_nil, List.forIn_cons, List.forIn_nil]
  refine wpAny_bind (wpAny_bind (orEnd_stop cd (((c2.extBut k1.extBut D.i2z).extBut k2 D.i12.symm).extBut k3.extBut D.i2z) (((d2.extBut k1.extBut D.l2z).extBut k2 D.l2i1).extBut k3.extBut D.l2z) eb fun g4 k4 => ?_))
  refine wpAny_pure (wpAny_pure (wpAny_bind (wpAny_rule ?_)))
  unfold Builtin.SmallTypes.stopIteration
  refine wpAny_bind ?_
  simp only [newExc, newTuple]
  refine' wpAny_bind (wpAny_newObj_type ?A1 (by size_fits))
  case A1 =>
    refine' wpAny_bind (m := firstArgMember _ _) (wpAny_of_eq (a := Value.none) ?B1 ?B2)
    case B1 => first | rfl | (simp only [firstArgMember]; rfl)
    case B2 =>
      refine' wpAny_newObj_type ?C1 (by size_fits)
      case C1 =>
        simp only [raiseNew]
        refine' wpAny_bind (wpAny_handled ?D1)
        case D1 =>
          rw [cd]
          refine' wpAny_bind (wpAny_pure (wpAny_throw ?F1))
          case F1 =>
            exact r _ _ (fun k o a1 a2 a3 a4 e => Heap.get?_push_of_some _ (Heap.get?_push_of_some _ (k4 _ _ a4 (k3.extBut _ _ a1 (k2 _ _ a3 (k1.extBut _ _ a1 e)))))) ⟨_, Heap.get?_push_size _ rfl, rfl⟩
theorem py_go {q tI tO j1 j2 u1 u2 : Addr} {m1 m2 : Nat} {us vs : Array Value} {a b a0 b0 : Value} {R : Option Value → Shared → Prop} (D : ZipApart q tI tO j1 j2 u1 u2)
    (Z : ZipS sh.heap q tI tO .none) (pI : IsPair sh.heap tI (.ref j1) (.ref j2)) (pO : IsPair sh.heap tO a0 b0)
    (c1 : sh.heap.IsTupleIter j1 u1 m1) (c2 : sh.heap.IsTupleIter j2 u2 m2) (d1 : sh.heap.IsTuple u1 us) (d2 : sh.heap.IsTuple u2 vs) (ea : us[m1]? = some a) (eb : vs[m2]? = some b)
    (r : ∀ g, ZipS g q tI tO (rawInt sh.heap.objs.size) → IsPair g tO a b → g.IsTupleIter j1 u1 (m1 + 1) → g.IsTupleIter j2 u2 (m2 + 1) → IsPair g sh.heap.objs.size a b → g.objs.size = sh.heap.objs.size + 1 →
      (∀ k o, k ≠ q → k ≠ tO → k ≠ j1 → k ≠ j2 → sh.heap.get? k = some o → g.get? k = some o) → R (some (.ref sh.heap.objs.size)) { sh with heap := g }) :
    wpAny (model pr wo) Ar (pyNext (.ref q)) R Er sh := by
  have ty : sh.TypeIs (.ref q) "zip" := ⟨_, Z, rfl⟩
  unfold pyNext
  refine wpAny_bind (wpAny_attempt (wpAny_callSpecial?_slot (name := Str.ofString "__next__") ty F.slot_zip_next (wpAny_call_entry F.slot_zip_next ty F.entry_zip_next ?_ (F.args_zip_next_1 _))))
  exact next_go D Z pI pO c1 c2 d1 d2 ea eb fun g b1 b2 b3 b4 b5 b6 b7 => wpAny_pure (r g b1 b2 b3 b4 b5 b6 b7)
theorem py_stop {q tI tO j1 j2 u1 u2 : Addr} {m1 m2 : Nat} {us vs : Array Value} {a0 b0 : Value} {R : Option Value → Shared → Prop} (cd : Ar.handled = none) (D : ZipApart q tI tO j1 j2 u1 u2)
    (Z : ZipS sh.heap q tI tO .none) (pI : IsPair sh.heap tI (.ref j1) (.ref j2)) (pO : IsPair sh.heap tO a0 b0)
    (c1 : sh.heap.IsTupleIter j1 u1 m1) (c2 : sh.heap.IsTupleIter j2 u2 m2) (d1 : sh.heap.IsTuple u1 us) (d2 : sh.heap.IsTuple u2 vs) (ea : us[m1]? = none) (eb : vs[m2]? = none)
    (r : ∀ g, (∀ k o, k ≠ q → k ≠ tO → k ≠ j1 → k ≠ j2 → sh.heap.get? k = some o → g.get? k = some o) → R none { sh with heap := g }) :
    wpAny (model pr wo) Ar (pyNext (.ref q)) R Er sh := by
  have ty : sh.TypeIs (.ref q) "zip" := ⟨_, Z, rfl⟩
  unfold pyNext
  refine wpAny_bind (wpAny_attempt (wpAny_callSpecial?_slot (name := Str.ofString "__next__") ty F.slot_zip_next (wpAny_call_entry F.slot_zip_next ty F.entry_zip_next ?_ (F.args_zip_next_1 _))))
  refine next_stop (show Ar.in1.handled = none from cd) D Z pI pO c1 c2 d1 d2 ea eb fun g e b1 b2 => ?_
  obtain ⟨oe, g1, g2⟩ := b2
  refine wpAny_bind (wpAny_isInstance (T := "StopIteration") (b := true) ⟨oe, g1, g2⟩ isSubtype_stop ?_)
  exact wpAny_pure (r _ b1)
theorem let_go {es : List Expr} {n1} {ps : Pos} {q tI tO tt : Addr} {R : Unit → Shared → Prop} (Z : ZipS sh.heap q tI tO (rawInt tt)) (r : ∀ g, ZipS g q tI tO .none → Heap.SameBut q sh.heap g → R () { sh with heap := g }) :
    wpAny (model pr wo) Ar (letOwnedTupleGo (.Tuple es n1 ps) (.ref q) (.ref tt)) R Er sh := by
  unfold letOwnedTupleGo
  refine wpAny_bind (wpAny_load Z ?_)
  have yes : (["enumerate", "zip", "dict_itemiterator", "dict_reverseitemiterator", "odict_iterator", "itertools.zip_longest", "itertools.pairwise"].contains "zip" && (#[rawInt tt, .bool false, .bool true, .ref tI, .ref tO] : Array Value)[0]? == some (rawInt tt)) = true := by simp
  show wpAny _ _ (if (_ && _) = true then _ else _) R Er sh
  rw [if_pos yes]
  refine wpAny_bind (wpAny_rule ?_)
  show wpAny _ _ (setField (.ref q) 0 .none) R Er sh
  exact wpAny_setField_rec Z (by simp) fun g a b => r g a b
theorem it_self {q tI tO : Addr} {own : Value} {R : Value → Shared → Prop} (Z : ZipS sh.heap q tI tO own) (r : R (.ref q) sh) : wpAny (model pr wo) Ar (pyIter (.ref q)) R Er sh := by
  have ty : sh.TypeIs (.ref q) "zip" := ⟨_, Z, rfl⟩
  refine wpAny_pyIter_slot ty F.slot_zip_iter (wpAny_call_entry F.slot_zip_iter ty F.entry_zip_iter ?_ (F.args_zip_iter_1 _))
  show wpAny _ _ (ret (Value.ref q)) _ _ sh
  exact wpAny_pure ⟨_, rfl, "zip", _, ty, F.slot_zip_next.lookup, r⟩
end
section
theorem tc_strict (a b c : Value) : checkTypeCall "zip" ⟨[a, b], [(Str.ofString "strict", c)]⟩ = pure () := by kernel_rfl
theorem nc_strict (a b c : Value) : checkBuiltinCall "zip.__new__" ⟨[.type "zip", a, b], [(Str.ofString "strict", c)]⟩ = pure () := by kernel_rfl
theorem ai_strict (o a b c : Value) : argsOk "object.__init__" ⟨[o, a, b], [(Str.ofString "strict", c)]⟩ := by unfold argsOk; kernel_rfl
abbrev H1 (g : Heap) (a : Addr) : Heap := g.push { cls := .type "tuple_iterator", data := .fields #[.ref a, .int 0 0] }
abbrev H2 (g : Heap) (a b : Addr) : Heap := (H1 g a).push { cls := .type "tuple_iterator", data := .fields #[.ref b, .int 0 0] }
abbrev H3 (g : Heap) (a b : Addr) : Heap := (H2 g a b).push { cls := .type "tuple", data := .seq #[.ref g.objs.size, .ref (H1 g a).objs.size] }
abbrev H4 (g : Heap) (a b : Addr) : Heap := (H3 g a b).push { cls := .type "tuple", data := .seq #[.none, .none] }
abbrev H5 (g : Heap) (a b : Addr) : Heap := (H4 g a b).push { cls := .type "zip", data := .fields #[.none, .bool false, .bool true, .ref (H2 g a b).objs.size, .ref (H3 g a b).objs.size] }
theorem meets_new (a b : Addr) (us vs : Array Value) :
    Meets (Builtin.«zip.__new__» ⟨[.type "zip", .ref a, .ref b], [(Str.ofString "strict", .bool true)]⟩) (fun _ R s => s.heap.IsTuple a us ∧ s.heap.IsTuple b vs ∧
      R (.ok (.ret (.ref (H4 s.heap a b).objs.size))) { s with heap := H5 s.heap a b }) :=
  .of_wp fun pr wo Ar R s hh => by
    obtain ⟨g, ge, dr, tk, os⟩ := s
    obtain ⟨h1, h2, h3⟩ := hh
    have hs := sub_zip
    have T1 : (Shared.mk g ge dr tk os).heap.IsTuple a us := h1
    have T2 : (Shared.mk (H1 g a) ge dr tk os).heap.IsTuple b vs := Heap.IsTuple.push h2 _
    wp_walk using wpAny_pyIter_tuple T1, wpAny_pyIter_tuple T2
    exact ⟨_, rfl, h3⟩
end
end Zs
end DL

set_option maxHeartbeats 1000000
/-! the D-layer: for a, b in zip(x, y, strict=True) -/
namespace DL
namespace Zs
open PySem PySem.Spec PyProof.Rows L2
section
variable {pr : Program} {wo : World} {Ar : Around} {Er : Value → Shared → Prop} {sh : Shared}
theorem call_new {a b : Addr} {us vs : Array Value} {R : Value → Shared → Prop} (t1 : sh.heap.IsTuple a us) (t2 : sh.heap.IsTuple b vs)
    (r : ∀ g, ZipS g (sh.heap.objs.size + 4) (sh.heap.objs.size + 2) (sh.heap.objs.size + 3) .none → IsPair g (sh.heap.objs.size + 2) (.ref sh.heap.objs.size) (.ref (sh.heap.objs.size + 1)) →
      IsPair g (sh.heap.objs.size + 3) .none .none → g.IsTupleIter sh.heap.objs.size a 0 → g.IsTupleIter (sh.heap.objs.size + 1) b 0 →
      (∀ k o, sh.heap.get? k = some o → g.get? k = some o) → R (.ref (sh.heap.objs.size + 4)) { sh with heap := g }) :
    wpAny (model pr wo) Ar (call (.type "zip") [.ref a, .ref b] [(Str.ofString "strict", .bool true)]) R Er sh := by
  refine callType_newKw F.called_zip (by decide) (tc_strict _ _ _) (nc_strict _ _ _) (fun o => ai_strict o _ _ _) F.entry_zip_new (meets_new a b us vs) ⟨t1, t2, ?_⟩
  have z1 : (H1 sh.heap a).objs.size = sh.heap.objs.size + 1 := Heap.size_push ..
  have z2 : (H2 sh.heap a b).objs.size = sh.heap.objs.size + 2 := (Heap.size_push ..).trans (congrArg (· + 1) z1)
  have z3 : (H3 sh.heap a b).objs.size = sh.heap.objs.size + 3 := (Heap.size_push ..).trans (congrArg (· + 1) z2)
  have z4 : (H4 sh.heap a b).objs.size = sh.heap.objs.size + 4 := (Heap.size_push ..).trans (congrArg (· + 1) z3)
  have p1 : ∀ {k o}, sh.heap.get? k = some o → (H1 sh.heap a).get? k = some o := fun e => Heap.get?_push_of_some _ e
  have p2 : ∀ {k o}, (H1 sh.heap a).get? k = some o → (H2 sh.heap a b).get? k = some o := fun e => Heap.get?_push_of_some _ e
  have p3 : ∀ {k o}, (H2 sh.heap a b).get? k = some o → (H3 sh.heap a b).get? k = some o := fun e => Heap.get?_push_of_some _ e
  have p4 : ∀ {k o}, (H3 sh.heap a b).get? k = some o → (H4 sh.heap a b).get? k = some o := fun e => Heap.get?_push_of_some _ e
  have p5 : ∀ {k o}, (H4 sh.heap a b).get? k = some o → (H5 sh.heap a b).get? k = some o := fun e => Heap.get?_push_of_some _ e
  have s1 : (H1 sh.heap a).get? sh.heap.objs.size = some _ := Heap.get?_push_size _ rfl
  have s2 : (H2 sh.heap a b).get? (H1 sh.heap a).objs.size = some _ := Heap.get?_push_size _ rfl
  have s3 : (H3 sh.heap a b).get? (H2 sh.heap a b).objs.size = some _ := Heap.get?_push_size _ rfl
  have s4 : (H4 sh.heap a b).get? (H3 sh.heap a b).objs.size = some _ := Heap.get?_push_size _ rfl
  have e5 : (H5 sh.heap a b).get? (H4 sh.heap a b).objs.size = some _ := Heap.get?_push_size _ rfl
  have e1 := p5 (p4 (p3 (p2 s1)))
  have e2 := p5 (p4 (p3 s2))
  have e3 := p5 (p4 s3)
  have e4 := p5 s4
  rw [z1] at e2
  rw [z2, z1] at e3
  rw [z3] at e4
  rw [z4, z2, z3] at e5
  show _ ∧ _
  rw [z4]
  exact ⟨⟨_, e5, rfl⟩, r _ e5 e3 e4 ⟨_, e1, rfl, rfl⟩ ⟨_, e2, rfl, rfl⟩ fun k o e => p5 (p4 (p3 (p2 (p1 e))))⟩
end
/-- the tuples as they stand at each turn; the end where both are at their ends -/
def ItzS (K : PySem.W.Frag) (a b : Addr) : It :=
  ⟨(RZ.ItzT K a b).go, (RZ.ItzT K a b).yld, fun i H => ∃ xs ys : List V, SqT K H a xs ∧ SqT K H b ys ∧ xs.length ≤ i ∧ ys.length ≤ i⟩
theorem turn {P : Program} {w : World} {K : PySem.W.Frag} {es : List Expr} {kk : Nat} {tp : Pos} {a b q tI tO j1 j2 : Addr} (D : ZipApart q tI tO j1 j2 a b) :
    Turn P w K (.Tuple es kk tp) (ItzS K a b) [q, tI, tO, j1, j2] q (fun i h => ZipS h q tI tO .none ∧ IsPair h tI (.ref j1) (.ref j2) ∧ (∃ x y, IsPair h tO x y) ∧ h.IsTupleIter j1 a i ∧ h.IsTupleIter j2 b i) where
  mem := List.mem_cons_self
  obj := fun i h st c hc => by
    obtain ⟨hz, hI, ⟨x, y, hO⟩, ⟨o1, e1, _, d1⟩, ⟨o2, e2, _, d2⟩⟩ := st
    simp only [List.mem_cons, List.not_mem_nil, or_false] at hc
    rcases hc with rfl | rfl | rfl | rfl | rfl
    · exact ⟨_, hz, fun v z => nomatch z⟩
    · exact ⟨_, hI, fun v z => nomatch z⟩
    · exact ⟨_, hO, fun v z => nomatch z⟩
    · exact ⟨o1, e1, fun v z => by rw [d1] at z; cases z⟩
    · exact ⟨o2, e2, fun v z => by rw [d2] at z; cases z⟩
  keep := fun i h h' st k => by
    obtain ⟨hz, hI, ⟨x, y, hO⟩, n1, n2⟩ := st
    exact ⟨k q (by simp) _ hz, k tI (by simp) _ hI, ⟨x, y, k tO (by simp) _ hO⟩, n1.at fun o e => k j1 (by simp) o e, n2.at fun o e => k j2 (by simp) o e⟩
  item := by
    intro X eP ew eK hc i pins s σ H E I hf st hg
    subst eP; subst ew; subst eK
    obtain ⟨hz, hI, ⟨x0, y0, hO⟩, n1, n2⟩ := st
    obtain ⟨xs, ys, x, y, sx, sy, hx, hy⟩ := hg
    obtain ⟨us, r1, p1, _⟩ := I.tuple sx
    obtain ⟨vs, r2, p2, _⟩ := I.tuple sy
    obtain ⟨u, hu, ru⟩ := r1.get hx
    obtain ⟨v, hv, rv⟩ := r2.get hy
    have lq : q < s.heap.objs.size := Heap.lt_size hz
    refine py_go D hz hI hO n1 n2 p1 p2 (a := u) (b := v) (by simpa using hu) (by simpa using hv) fun g Zg Og m1 m2 Tg sz kg => ?_
    refine ⟨_, rfl, let_go (sh := { s with heap := g }) Zg fun g2 Zg2 sb => ?_⟩
    have T2 : g2.get? s.heap.objs.size = some { cls := .type "tuple", data := .seq #[u, v] } := (sb.2 _ (Nat.ne_of_gt lq)).trans Tg
    have okT : ObjOk X.prog X.w (upd H s.heap.objs.size (.tup [x, y])) g2 s.heap.objs.size (.tup [x, y]) :=
      ⟨by show 2 ≤ sizeLine; decide, [u, v], .cons ru (.cons rv .nil), ⟨_, T2, rfl, _, rfl⟩⟩
    have I2 : Inv X pins σ (upd H s.heap.objs.size (.tup [x, y])) { s with heap := g2 } :=
      I.turnedNew (t' := s.toks) (ch := [q, tI, tO, j1, j2]) (fun c o nb e => (sb.2 c (fun z => nb (by rw [z]; simp))).trans (kg c o (fun z => nb (by rw [z]; simp)) (fun z => nb (by rw [z]; simp)) (fun z => nb (by rw [z]; simp)) (fun z => nb (by rw [z]; simp)) e)) hf (Nat.le_refl _) okT
    refine ⟨.ref s.heap.objs.size, _, I2, rfl, ⟨_, x, y, rfl, I.hok.fresh (Nat.le_refl _), rfl, fun l hl => by rw [I.tuple_inj hl sx]; exact hx, fun l hl => by rw [I.tuple_inj hl sy]; exact hy⟩, ⟨Zg2, ?_, ⟨u, v, ?_⟩, ?_, ?_⟩, fun c hcm => ?_⟩
    · exact (sb.2 _ D.TIz).trans (kg _ _ D.TIz D.TITO D.TIi1 D.TIi2 hI)
    · exact (sb.2 _ D.TOz).trans Og
    · exact m1.at fun o e => (sb.2 _ D.i1z).trans e
    · exact m2.at fun o e => (sb.2 _ D.i2z).trans e
    · have lt : c < s.heap.objs.size := by
        have hcm' := hcm
        simp only [List.mem_cons, List.not_mem_nil, or_false] at hcm'
        rcases hcm' with rfl | rfl | rfl | rfl | rfl
        · exact lq
        · exact Heap.lt_size hI
        · exact Heap.lt_size hO
        · obtain ⟨_, e, _⟩ := n1; exact Heap.lt_size e
        · obtain ⟨_, e, _⟩ := n2; exact Heap.lt_size e
      rw [upd_ne (Nat.ne_of_lt lt)]
      exact (hf c hcm).1
  done := by
    intro X eP ew eK hc i pins s σ H E I hf st hg
    subst eP; subst ew; subst eK
    obtain ⟨hz, hI, ⟨x0, y0, hO⟩, n1, n2⟩ := st
    obtain ⟨xs, ys, sx, sy, e1, e2⟩ := hg
    obtain ⟨us, r1, p1, _⟩ := I.tuple sx
    obtain ⟨vs, r2, p2, _⟩ := I.tuple sy
    have l1 := r1.length
    have l2 := r2.length
    refine py_stop (I.ok.hd hc) D hz hI hO n1 n2 p1 p2 (by simp; omega) (by simp; omega) fun g kg => ⟨rfl, ?_⟩
    exact I.turnedL (t' := s.toks) (ch := [q, tI, tO, j1, j2]) (fun c o nb e => kg c o (fun z => nb (by rw [z]; simp)) (fun z => nb (by rw [z]; simp)) (fun z => nb (by rw [z]; simp)) (fun z => nb (by rw [z]; simp)) e) hf
  self := fun A i s Q E st h => it_self st.1 h
section
variable {M : Model} {A : Around} {E : Value → Shared → Prop} {s : Shared} {env : Env}
theorem callWith_tyK {pos : Pos} {T : String} {e : Expr} {rest : List Expr} {kws : List Keyword} {Q : Value → Shared → Prop}
    (h : wpAny M A (spliced (backTo pos (starEach (e :: rest) env))) (fun vs t => wpAny M A (evalAll ((backToKw pos (keywordEach kws env)).map (·.2)))
      (fun ks t' => wpAny M A (call (.type T) vs (((backToKw pos (keywordEach kws env)).filterMap (·.1)).zip ks)) Q E t') E t) E s)
    (h1 : backTo pos (starEach (e :: rest) env) = (false, eval e env) :: backTo pos (starEach rest env)) (h2 : (backTo pos (starEach (e :: rest) env)).any (·.1) = false)
    (h3 : (backToKw pos (keywordEach kws env)).all (·.1.isSome) = true) (h4 : (backToKw pos (keywordEach kws env)).any (·.1.isNone) = false) :
    wpAny M A (callWith pos (.type T) [] (backTo pos (starEach (e :: rest) env)) (backToKw pos (keywordEach kws env))) Q E s := by
  have arg : wpAny M A (evalArgs (.type T) true (backTo pos (starEach (e :: rest) env)) (backToKw pos (keywordEach kws env))) (fun a t => wpAny M A (call (.type T) ([] ++ a.pos) a.kw) Q E t) E s := by
    rw [h1] at h ⊢
    exact PyProof.Rows.evalArgs_kwB h3 h
  unfold callWith
  refine wpAny_bind (wpAny_holding (wpAny_mono arg (fun a t ha => wpAny_bind (wpAny_standAt ?_)) fun _ _ z => z))
  simp only [h2, h4, Bool.or_false]
  refine wpAny_bind (wpAny_pure (wpAny_bind (wpAny_mono ha (fun r t' hr => ?_) fun _ _ z => z)))
  exact wpAny_bind (wpAny_holding (wpAny_point (wpAny_pure hr)))
end
def iZipS (K : PySem.W.Frag) (ta : TA) : TI := fun σ H R => ta σ H fun vs H1 => ∃ a b xs ys, vs = [.ref a, .ref b] ∧ SqT K H1 a xs ∧ SqT K H1 b ys ∧ R (ItzS K a b) H1
theorem pi_zipS {X : Cx} {e e2 : Expr} {ta : TA} {p pos tpos kp cp : Pos} {elts : List Expr} {kk kc : Nat} (hg : Gl X "zip") (hm : X.mg "zip" = none) (ha : PA X [e, e2] ta)
    (h1 : backTo pos (starEach [e, e2] X.env) = (false, eval e X.env) :: backTo pos (starEach [e2] X.env) := by rfl) (h2 : (backTo pos (starEach [e, e2] X.env)).any (·.1) = false := by rfl) :
    PI X (.Tuple elts kk tpos) (.Call (.Name "zip" p) [e, e2] [⟨some "strict", .Constant (.bool true) kc cp, kp⟩] pos) (iZipS X.K ta) := by
  refine ⟨fun pins s σ H R I h => ?_⟩
  refine wpAny_Call_Name_kw (ld_blt I hg hm PyProof.Rows.boot_zip (callWith_tyK (thn (ha.run pos pins s σ H _ I h) fun us s1 ⟨vs, H1, I1, r1, q1⟩ => ?_) h1 h2 rfl rfl))
  have hk : PK X [⟨some "strict", .Constant (.bool true) kc cp, kp⟩] (tCons (tC (.bl true)) tNil) := pk_cons pe_bl pk_nil
  refine thn (hk.run pos pins s1 σ H1 (fun zs H2 => zs = [V.bl true] ∧ H2 = H1) I1 ⟨rfl, rfl⟩) fun ws s2 ⟨zs, H2, I2, r2, ez, eH⟩ => ?_
  subst ez; subst eH
  obtain ⟨a, b, xs, ys, ex, sx, sy, q⟩ := q1
  subst ex
  obtain ⟨u1, u2, rfl, ra, rb⟩ := vals2 r1
  cases (show u1 = Value.ref a from ra)
  cases (show u2 = Value.ref b from rb)
  obtain ⟨w1, rfl, rw1⟩ := vals1 r2
  cases (show w1 = Value.bool true from rw1)
  have fresh5 : ∀ c, c ∈ [s2.heap.objs.size + 4, s2.heap.objs.size + 2, s2.heap.objs.size + 3, s2.heap.objs.size, s2.heap.objs.size + 1] → FpOk X pins H2 c := fun c hc => by
    have le : s2.heap.objs.size ≤ c := by
      simp only [List.mem_cons, List.not_mem_nil, or_false] at hc
      omega
    exact I2.fpOk le (I2.hok.fresh le)
  obtain ⟨us, rv, p1, _⟩ := I2.tuple sx
  obtain ⟨vs, rv2, p2, _⟩ := I2.tuple sy
  obtain ⟨o1, ho1, _⟩ := id p1
  obtain ⟨o2, ho2, _⟩ := id p2
  show wpAny _ _ (call (.type "zip") [.ref a, .ref b] [(Str.ofString "strict", .bool true)]) _ _ _
  refine call_new (show s2.heap.IsTuple a us.toArray from p1) (show s2.heap.IsTuple b vs.toArray from p2) fun g Z pI pO n1 n2 kg => it_self Z ?_
  have I3 : Inv X pins σ H2 { s2 with heap := g } := I2.kept (t' := s2.toks) kg
  exact ⟨s2.heap.objs.size + 4, [s2.heap.objs.size + 4, s2.heap.objs.size + 2, s2.heap.objs.size + 3, s2.heap.objs.size, s2.heap.objs.size + 1], _, _, H2, rfl, I3, turn (PySem.W.ktu_apart s2.heap.objs.size a b (Heap.lt_size ho1) (Heap.lt_size ho2)), ⟨Z, pI, ⟨_, _, pO⟩, n1, n2⟩, fresh5, q⟩
end Zs
end DL

/-! the D-layer: strict zip as data -/
namespace DL
open PySem L2
theorem ItOk.zsT {K : PySem.W.Frag} {ι : List Addr} {H : Hp} {p q : Addr} {vs us : List V} {xs ys : List D} (s1 : SqT K H p vs) (s2 : SqT K H q us) (r1 : RDs K ι H xs vs) (r2 : RDs K ι H ys us) (hl : xs.length = ys.length) :
    ItOk K ι H (Zs.ItzS K p q) (.zpT xs ys) := fun ι' H' S i x rs => by
  have base := ItOk.zpT s1 s2 r1 r2 ι' H' S i x rs
  unfold Src.at_ at base ⊢
  dsimp only at base ⊢
  cases e2 : zpAt xs ys i with
  | none =>
    refine ⟨vs, us, x.tup _ _ s1, x.tup _ _ s2, ?_, ?_⟩
    · rw [r1.length]
      rcases zpAt_none e2 with h | h <;> omega
    · rw [r2.length]
      rcases zpAt_none e2 with h | h <;> omega
  | some d =>
    rw [e2] at base
    exact base
def iZpS (ms : AM) : IM := fun ρ S => (ms ρ S).bind fun ds S1 => match ds with
  | [.tup xs, .tup ys] => if xs.length = ys.length then .ok (.zpT xs ys) S1 else .stk
  | _ => .stk
section
variable {X : Cx} {W : WX} {e e2 : Expr} {ms : AM} {p pos : Pos}
theorem si_zipS {elts : List Expr} {kk kc : Nat} {tpos cp kp : Pos} (hg : Gl X "zip") (hm : X.mg "zip" = none) (ha : SA X W [e, e2] ms)
    (h1 : backTo pos (starEach [e, e2] X.env) = (false, eval e X.env) :: backTo pos (starEach [e2] X.env) := by rfl) (h2 : (backTo pos (starEach [e, e2] X.env)).any (·.1) = false := by rfl) :
    SI X W (.Tuple elts kk tpos) (.Call (.Name "zip" p) [e, e2] [⟨some "strict", .Constant (.bool true) kc cp, kp⟩] pos) (iZpS ms) := by
  refine PI.imp (Zs.pi_zipS hg hm ha h1 h2) fun σ H Q h => ?_
  obtain ⟨ι, ρ, S, re, rs, h⟩ := h
  refine ⟨ι, ρ, S, re, rs, PR.imp (fun v H1 hh => ?_) (PR.bind (rel := rDs X.K) h)⟩
  obtain ⟨ι1, d, S1, x1, rs1, r1, h1⟩ := hh
  split at h1
  · rename_i xs ys
    split at h1
    · rename_i hl
      simp only [rDs, RDs, RD] at r1
      obtain ⟨v1, _, rfl, ⟨p, vs, rfl, q, r⟩, v2, _, rfl, ⟨p2, us, rfl, q2, r2⟩, rfl⟩ := r1
      exact ⟨p, p2, vs, us, rfl, q, q2, h1.ret rs1 (.zsT q q2 r r2 hl)⟩
    · exact h1.elim
  · exact h1.elim
end
end DL

set_option maxHeartbeats 1000000
/-! the D-layer: small facts for the plain laws -/
namespace DL
open PySem L2
section
variable {A : List Nat} {k w dd W : Nat} {S : Sto} {d : D} {p : PyData} {h c : Nat} {l l' : List D}
theorem len_str {z : Str} (h : z.length ≤ sizeLine) : bLen [.str z] S = some (.int z.length, S) := by
  unfold bLen itemsD
  simp only [if_pos h]
theorem in_sign (c : Nat) (z : Str) : dIn (.str ⟨#[c]⟩) (.str z) S = some (.bl (decide (c ∈ z.cps.toList)), S) := by
  unfold dIn inD
  have h : (⟨#[c]⟩ : Str).length = 1 := rfl
  simp only [if_pos h, Option.map_some]
  rfl
theorem le_i (i j : Int) : dLe (.int i) (.int j) S = some (.bl (decide (i ≤ j)), S) := rfl
theorem lt_i (i j : Int) : dLt (.int i) (.int j) S = some (.bl (decide (i < j)), S) := rfl
theorem gt_i (i j : Int) : dGt (.int i) (.int j) S = some (.bl (decide (j < i)), S) := rfl
theorem eq_i (i j : Int) : dEq (.int i) (.int j) S = some (.bl (decide (i = j)), S) := by
  show some (D.bl (decide (V.int i = V.int j)), S) = _
  congr 3
  simp
theorem eq_s (i j : Str) : dEq (.str i) (.str j) S = some (.bl (decide (i = j)), S) := by
  show some (D.bl (decide (V.str i = V.str j)), S) = _
  congr 3
  simp
theorem len_signs (z : Str) : (signs z).length = z.length := by
  unfold signs
  simp [Str.length]
theorem eq_nil {S : Sto} {c n : Nat} {xs : List D} (e : S[c]? = some (.lst xs)) (e2 : S[n]? = some (.lst [])) : dEq (.ref c) (.ref n) S = some (.bl xs.isEmpty, S) := by
  have a : seqAt S c = some xs := by unfold seqAt; rw [e]
  have b : seqAt S n = some [] := by unfold seqAt; rw [e2]
  unfold dEq eqD eq0
  simp only [a, b, List.isEmpty_nil, Bool.or_true, if_true, Bool.and_true, Option.map_some]
theorem eq_unit {xs : List D} : dEq (.tup xs) (.tup []) S = some (.bl xs.isEmpty, S) := by
  unfold dEq eqD eq0
  simp only [List.isEmpty_nil, Bool.or_true, if_true, Bool.and_true, Option.map_some]
theorem ne_unit {xs : List D} : dNe (.tup xs) (.tup []) S = some (.bl (!xs.isEmpty), S) := by
  unfold dNe eqD eq0
  simp only [List.isEmpty_nil, Bool.or_true, if_true, Bool.and_true, Option.map_some]
theorem ord_c (c : Nat) : bOrd [.str ⟨#[c]⟩] S = some (.int c, S) := rfl
theorem sees_map {β : Type} (h : Option PyData → β) : ∀ {xs : List D} {ps : List PyData}, sees A k S xs = some ps → xs.map (fun d => h (see A k S d)) = ps.map fun p => h (some p)
  | [], ps, e => by simp only [sees_nil, Option.some.injEq] at e; subst e; rfl
  | d :: ds, ps, e => by
    obtain ⟨p, qs, rfl, e1, e2⟩ := sees_inv e
    rw [List.map_cons, List.map_cons, e1, sees_map h e2]
theorem sees_mem : ∀ {xs : List D} {ps : List PyData} {d : D}, sees A k S xs = some ps → d ∈ xs → ∃ p ∈ ps, see A k S d = some p
  | [], _, _, _, h => by cases h
  | x :: xs, ps, d, e, h => by
    obtain ⟨p, qs, rfl, e1, e2⟩ := sees_inv e
    rcases List.mem_cons.mp h with rfl | h
    · exact ⟨p, List.mem_cons_self, e1⟩
    · obtain ⟨q, h1, h2⟩ := sees_mem e2 h
      exact ⟨q, List.mem_cons_of_mem _ h1, h2⟩
theorem sees_concat {ys : List D} {l : D} {ps : List PyData} (e : sees A k S (ys ++ [l]) = some ps) : ∃ qs pl, ps = qs ++ [pl] ∧ sees A k S ys = some qs ∧ see A k S l = some pl := by
  have h1 := sees_take ys.length e
  rw [List.take_left] at h1
  have h2 := sees_drop ys.length e
  rw [List.drop_left] at h2
  obtain ⟨p, qs, e1, e2, e3⟩ := sees_inv h2
  simp only [sees_nil, Option.some.injEq] at e3
  subst e3
  exact ⟨_, p, by rw [← e1, List.take_append_drop], h1, e2⟩
theorem cut_init (ys : List D) (l : D) : cutD (ys ++ [l]) none (some (-1)) = ys := by
  unfold cutD
  have h1 : HT.sIx (ys ++ [l]).length 0 none = 0 := rfl
  have h2 : HT.sIx (ys ++ [l]).length (ys ++ [l]).length (some (-1)) = ys.length := by
    show (if (-1 : Int) < 0 then ((-1 : Int) + ((ys ++ [l]).length : Int)).toNat else min (-1 : Int).toNat (ys ++ [l]).length) = _
    rw [if_pos (by decide), List.length_append]
    simp only [List.length_cons, List.length_nil]
    omega
  rw [h1, h2, List.drop_zero, Nat.sub_zero, List.take_left]
theorem sl_init (ys : List D) (l : D) : dSl (.tup (ys ++ [l])) none (some (-1)) S = some (.tup ys, S) := by
  show some (D.tup (cutD (ys ++ [l]) none (some (-1))), S) = _
  rw [cut_init]
theorem ix_last (ys : List D) (l : D) : dIx (.tup (ys ++ [l])) (.int (-1)) S = some (l, S) := by
  unfold dIx
  simp only [atI_last, Option.map_some]
theorem neg1 : dNeg (.int 1) S = some (.int (-1), S) := rfl
theorem snoc (xs : List D) : xs = [] ∨ ∃ ys l, xs = ys ++ [l] := by
  rcases List.eq_nil_or_concat xs with h | ⟨ys, l, h⟩
  · exact .inl h
  · exact .inr ⟨ys, l, by rw [h, List.concat_eq_append]⟩
theorem at_nat {α : Type} {xs : List α} {i : Int} (h0 : 0 ≤ i) (h1 : i < xs.length) : ∃ x, x ∈ xs ∧ atI xs i = some x := by
  have hl : i.toNat < xs.length := by omega
  refine ⟨xs[i.toNat], List.getElem_mem hl, ?_⟩
  unfold atI ixN
  rw [if_pos h0, if_pos h1, Option.bind_some, List.getElem?_eq_getElem hl]
theorem ix_lst {n : Nat} {xs : List D} (e : S[n]? = some (.lst xs)) {i : Int} {x : D} (hx : atI xs i = some x) : dIx (.ref n) (.int i) S = some (x, S) := by
  unfold dIx
  have : seqAt S n = some xs := by unfold seqAt; rw [e]
  simp only [e, this, Option.bind_some, hx, Option.map_some]
theorem len_lst {n : Nat} {xs : List D} (e : S[n]? = some (.lst xs)) : bLen [.ref n] S = some (.int xs.length, S) := by
  unfold bLen itemsD
  have : seqAt S n = some xs := by unfold seqAt; rw [e]
  simp only [this]
/-- a pick from a list that was just made -/
theorem hand_out (H : Hand h c S) : S.length ∉ [h, c] := by
  have := H.lt
  simp only [List.mem_cons, List.not_mem_nil, or_false, not_or]
  omega
theorem push_hand {x : Cell} (H : Hand h c S) : Adv h c S (S ++ [x]) := H.stp .push
theorem see_adv {S' : Sto} (a : Adv h c S S') (e : see [h, c] k S d = some p) : see [h, c] k S' d = some p := see_stp a.2 e
/-- data without any object -/
def con (d : D) : Option PyData := toPw (fun _ => none) d
theorem con_see {A : List Nat} {k : Nat} {S : Sto} {d : D} {p : PyData} (e : con d = some p) : see A k S d = some p := toPw_mono (fun _ _ h => by cases h) e
def limB (w d : Nat) (p : PyData) : Bool := fit p && decide (wt p ≤ w) && decide (p.depth ≤ d)
theorem limB_of {w d : Nat} {p : PyData} (h : limB w d p = true) : Lim w d p := by
  simp only [limB, Bool.and_eq_true, decide_eq_true_eq] at h
  exact ⟨h.1.1, h.1.2, h.2⟩
theorem join_nil : ∀ zs : List Str, (Str.join (Str.ofString "") zs).cps.toList = (zs.map fun z => z.cps.toList).flatten
  | [] => rfl
  | [x] => by show x.cps.toList = _; simp
  | x :: y :: r => by
    show (x ++ Str.ofString "" ++ Str.join (Str.ofString "") (y :: r)).cps.toList = _
    rw [cps_append, cps_append, join_nil (y :: r)]
    have : (Str.ofString "").cps.toList = [] := by decide +kernel
    rw [this]
    simp
theorem join_txt (y : Str) (parts : List Str) : Txt.join y parts = Str.join y parts := StrLaws.glued_eq_join y parts
/-- readable beside the hand, and small -/
def Val (h c k w d : Nat) (S : Sto) (x : D) : Prop := ∃ p, see [h, c] k S x = some p ∧ Lim w d p
theorem Val.adv {S' : Sto} {x : D} (v : Val h c k w dd S x) (a : Adv h c S S') : Val h c k w dd S' x := by
  obtain ⟨p, e, l⟩ := v
  exact ⟨p, see_adv a e, l⟩
theorem Val.mono {k' w' d' : Nat} {x : D} (v : Val h c k w dd S x) (h1 : k ≤ k') (h2 : w ≤ w') (h3 : dd ≤ d') : Val h c k' w' d' S x := by
  obtain ⟨p, e, l⟩ := v
  exact ⟨p, see_le h1 e, l.mono h2 h3⟩
/-- of objects without objects in them, by counting -/
def conB (w d : Nat) (x : D) : Bool := match con x with
  | some p => limB w d p
  | none => false
theorem conB_val {x : D} (e : conB w dd x = true) : Val h c k w dd S x := by
  unfold conB at e
  split at e
  · rename_i p ep
    exact ⟨p, con_see ep, limB_of e⟩
  · cases e
theorem add_lst {n m : Nat} {xs ys : List D} (e1 : S[n]? = some (.lst xs)) (e2 : S[m]? = some (.lst ys)) (hl : xs.length + ys.length ≤ 100000) : dAdd (.ref n) (.ref m) S = some (.ref S.length, S ++ [.lst (xs ++ ys)]) := by
  unfold dAdd
  simp only [e1, e2]
  rw [if_pos (Nat.le_trans hl (by decide))]
theorem new_at (x : Cell) : (S ++ [x])[S.length]? = some x := by simp
theorem old_at {n : Nat} {y : Cell} (x : Cell) (e : S[n]? = some y) : (S ++ [x])[n]? = some y := (Stp.push (A := [])).at_ (by simp) e
/-- a row of values -/
def Vals (h c k W d : Nat) (S : Sto) (l : List D) : Prop := ∃ ps, sees [h, c] k S l = some ps ∧ (∀ p ∈ ps, fit p = true ∧ p.depth ≤ d) ∧ wts ps ≤ W
theorem Vals.nil : Vals h c k W dd S [] := ⟨[], sees_nil, (fun p hp => by cases hp), Nat.zero_le _⟩
theorem Vals.app {W' : Nat} (a : Vals h c k W dd S l) (b : Vals h c k W' dd S l') : Vals h c k (W + W') dd S (l ++ l') := by
  obtain ⟨ps, e, f, g⟩ := a
  obtain ⟨qs, e', f', g'⟩ := b
  refine ⟨ps ++ qs, sees_append e e', fun p hp => ?_, by rw [wts_app]; omega⟩
  rcases List.mem_append.mp hp with hp | hp
  · exact f p hp
  · exact f' p hp
theorem Vals.cut (a : Vals h c k W dd S l) (lo hi : Option Int) : Vals h c k W dd S (cutD l lo hi) := by
  obtain ⟨ps, e, f, g⟩ := a
  unfold cutD
  refine ⟨_, sees_take _ (sees_drop _ e), fun p hp => f p (List.drop_subset _ _ (List.take_subset _ _ hp)), ?_⟩
  exact Nat.le_trans (wts_take _ _) (Nat.le_trans (wts_drop _ _) g)
theorem Vals.one (a : Val h c k w dd S d) : Vals h c k (w + 2) dd S [d] := by
  obtain ⟨p, e, f, g, q⟩ := a
  refine ⟨[p], sees_cons e sees_nil, fun x hx => ?_, ?_⟩
  · rw [List.mem_singleton.mp hx]; exact ⟨f, q⟩
  · simp only [wts]; omega
theorem Vals.mono {k' W' d' : Nat} (a : Vals h c k W dd S l) (h1 : k ≤ k') (h2 : W ≤ W') (h3 : dd ≤ d') : Vals h c k' W' d' S l := by
  obtain ⟨ps, e, f, g⟩ := a
  exact ⟨ps, sees_le h1 e, fun p hp => ⟨(f p hp).1, Nat.le_trans (f p hp).2 h3⟩, Nat.le_trans g h2⟩
theorem Vals.adv {S' : Sto} (a : Vals h c k W dd S l) (x : Adv h c S S') : Vals h c k W dd S' l := by
  obtain ⟨ps, e, f, g⟩ := a
  exact ⟨ps, sees_stp x.2 e, f, g⟩
theorem Vals.len (a : Vals h c k W dd S l) : l.length ≤ W := by
  obtain ⟨ps, e, f, g⟩ := a
  have := wts_len ps
  rw [sees_len e] at this
  omega
theorem Vals.tup (a : Vals h c k W dd S l) : Val h c k (W + 3) (dd + 1) S (.tup l) := by
  obtain ⟨ps, e, f, g⟩ := a
  refine ⟨_, see_tup e, lim_tup.mpr ⟨fun p hp => (f p hp).1, by omega, ?_⟩⟩
  have := depth_all.mpr fun p hp => (f p hp).2
  omega
theorem Vals.lst {n : Nat} (a : Vals h c k W dd S l) (e0 : S[n]? = some (.lst l)) (hn : n ∉ [h, c]) : Val h c (k + 1) (W + 3) (dd + 1) S (.ref n) := by
  obtain ⟨ps, e, f, g⟩ := a
  refine ⟨_, see_lst e0 hn e, ?_, ?_, ?_⟩
  · simp only [fit]; exact fits_all.mpr fun p hp => (f p hp).1
  · simp only [wt]; omega
  · have := depth_all.mpr fun p hp => (f p hp).2
    simp only [PyData.depth]; omega
theorem Val.items (a : Val h c k w dd S (.tup l)) : Vals h c k w dd S l := by
  obtain ⟨p, e, lim⟩ := a
  obtain ⟨ps, rfl, e1⟩ := see_tup_inv e
  refine ⟨ps, e1, fun q hq => ⟨(lim.mem hq).f, (lim.mem hq).d⟩, ?_⟩
  have := lim.w
  simp only [wt] at this
  omega
theorem vals_con (h1 : l.all (conB w dd) = true) : Vals h c k (l.length * (w + 2)) dd S l := by
  induction l with
  | nil => exact .nil
  | cons x l ih =>
    rw [List.all_cons, Bool.and_eq_true] at h1
    have a : Val h c k w dd S x := conB_val h1.1
    have := (Vals.one a).app (ih h1.2)
    refine this.mono (Nat.le_refl _) ?_ (Nat.le_refl _)
    rw [List.length_cons, Nat.add_mul]; omega
theorem vals_rep (a : Vals h c k W dd S l) : ∀ n : Nat, Vals h c k (n * W) dd S (List.replicate n l).flatten
  | 0 => by simpa using Vals.nil
  | n + 1 => by
    rw [List.replicate_succ, List.flatten_cons]
    refine (a.app (vals_rep a n)).mono (Nat.le_refl _) ?_ (Nat.le_refl _)
    rw [Nat.add_mul]; omega
theorem add_tup {xs ys : List D} (hl : xs.length + ys.length ≤ 1000000) : dAdd (.tup xs) (.tup ys) S = some (.tup (xs ++ ys), S) := by
  unfold dAdd
  simp only []
  rw [if_pos (Nat.le_trans hl (by decide))]
theorem sl_tup {xs : List D} (lo hi : Option Int) : dSl (.tup xs) lo hi S = some (.tup (cutD xs lo hi), S) := rfl
theorem tuple_lst {n : Nat} {xs : List D} (e : S[n]? = some (.lst xs)) : bTuple [.ref n] S = some (.tup xs, S) := by
  unfold bTuple itemsD
  have : seqAt S n = some xs := by unfold seqAt; rw [e]
  simp only [this, Option.map_some]
theorem len_tup {xs : List D} : bLen [.tup xs] S = some (.int xs.length, S) := rfl
theorem sl_lst {n : Nat} {xs : List D} (e : S[n]? = some (.lst xs)) (lo hi : Option Int) : dSl (.ref n) lo hi S = some (.ref S.length, S ++ [.lst (cutD xs lo hi)]) := by
  unfold dSl
  have : seqAt S n = some xs := by unfold seqAt; rw [e]
  simp only [this, Option.map_some]
theorem mul_lst {n m : Nat} {xs : List D} (e : S[n]? = some (.lst xs)) (hl : xs.length * m ≤ 1000000) (hm : m ≤ 1000000) : dMul (.ref n) (.int (m : Int)) S = some (.ref S.length, S ++ [.lst (List.replicate m xs).flatten]) := by
  unfold dMul
  simp only [e, Int.toNat_natCast]
  rw [if_pos]
  simp only [Bool.and_eq_true, decide_eq_true_eq]
  exact ⟨⟨by omega, by omega⟩, Nat.le_trans hl (by decide)⟩
theorem seq_of {n : Nat} {xs : List D} (e : S[n]? = some (.lst xs)) : seqAt S n = some xs := by unfold seqAt; rw [e]
theorem at_adv {n : Nat} {xs : List D} {S' : Sto} (e : S[n]? = some (.lst xs)) (hn : n ∉ [h, c]) (a : Adv h c S S') (i : Nat) : (Src.lst n).at_ i S' = some xs[i]? := by
  unfold Src.at_
  simp only [seq_of (a.2.at_ hn e), Option.map_some]
end
end DL

set_option maxHeartbeats 1000000
/-! the D-layer: == of data; tuples of texts -/
namespace DL
open PySem L2
theorem eqvAll_empty {ps qs : List PyData} (h : (ps.isEmpty || qs.isEmpty) = true) : PyData.eqvAll ps qs = (ps.isEmpty && qs.isEmpty) := by
  cases ps <;> cases qs <;> first | rfl | (simp at h)
theorem gP_seq {k n : Nat} {S : Sto} {xs : List D} {p : PyData} (e : seqAt S n = some xs) (h : gP k S n = some p) : ∃ ps, p = .list ps ∧ ps.length = xs.length := by
  cases k with
  | zero => simp only [gP] at h; cases h
  | succ k =>
    unfold gP at h
    unfold seqAt at e
    split at h
    · rename_i ys ey
      rw [ey] at e; cases e
      obtain ⟨ps, e1, rfl⟩ := Option.map_eq_some_iff.mp h
      exact ⟨ps, rfl, toPws_len e1⟩
    · rename_i ys ey
      rw [ey] at e; cases e
      obtain ⟨ps, e1, rfl⟩ := Option.map_eq_some_iff.mp h
      exact ⟨ps, rfl, toPws_len e1⟩
    · rename_i ys ey
      rw [ey] at e; cases e
    · cases h
theorem emp_len {α β : Type} {a : List α} {b : List β} (h : a.length = b.length) : a.isEmpty = b.isEmpty := by
  cases a <;> cases b <;> first | rfl | cases h
/-- == told by what is read -/
theorem eq_of {S : Sto} {x y : D} {p q : PyData} (ex : toP S x = some p) (ey : toP S y = some q) (hp : SeqAt.shaped p = true) (hq : SeqAt.shaped q = true) (hf : flatD x = none ∨ flatD y = none) : eqD x y S = some (PyData.eqv p q) := by
  have e1 : eqD1 x y S = some (PyData.eqv p q) := by
    unfold eqD1
    have : (SeqAt.shaped p && SeqAt.shaped q) = true := by rw [hp, hq]; rfl
    rcases hf with h | h
    · simp only [h, ex, ey, if_pos this]
    · cases hx : flatD x with
      | none => simp only [ex, ey, if_pos this]
      | some a => simp only [h, ex, ey, if_pos this]
  unfold eqD
  cases h0 : eq0 x y S with
  | none => exact e1
  | some b =>
    show some b = _
    unfold eq0 at h0
    split at h0
    · rename_i xs ys
      split at h0
      · rename_i he
        cases h0
        unfold toP at ex ey
        simp only [toPw] at ex ey
        obtain ⟨ps, a1, rfl⟩ := Option.map_eq_some_iff.mp ex
        obtain ⟨qs, a2, rfl⟩ := Option.map_eq_some_iff.mp ey
        rw [← emp_len (toPws_len a1), ← emp_len (toPws_len a2)] at he ⊢
        show some _ = some (PyData.eqvAll ps qs)
        rw [eqvAll_empty he]
      · cases h0
    · rename_i n m
      split at h0
      · rename_i xs ys hn hm
        split at h0
        · rename_i he
          cases h0
          unfold toP at ex ey
          simp only [toPw] at ex ey
          obtain ⟨ps, rfl, l1⟩ := gP_seq hn ex
          obtain ⟨qs, rfl, l2⟩ := gP_seq hm ey
          rw [← emp_len l1, ← emp_len l2] at he ⊢
          show some _ = some (PyData.eqvAll ps qs)
          rw [eqvAll_empty he]
        · cases h0
      · cases h0
    · cases h0
/-! ### tuples of texts -/
def tD (f : List Str) : D := .tup (f.map .str)
def pT (f : List Str) : PyData := .tuple (f.map .str)
theorem toPws_strs (g : Nat → Option PyData) : ∀ f : List Str, toPws g (f.map D.str) = some (f.map PyData.str)
  | [] => by simp only [List.map_nil, toPws]
  | x :: f => by simp only [List.map_cons, toPws, toPw, toPws_strs g f, Option.bind_some, Option.map_some]
theorem toPw_tD (g : Nat → Option PyData) (f : List Str) : toPw g (tD f) = some (pT f) := by
  unfold tD pT
  simp only [toPw, toPws_strs, Option.map_some]
theorem toPws_tDs (g : Nat → Option PyData) : ∀ fs : List (List Str), toPws g (fs.map tD) = some (fs.map pT)
  | [] => by simp only [List.map_nil, toPws]
  | x :: fs => by simp only [List.map_cons, toPws, toPw_tD, toPws_tDs g fs, Option.bind_some, Option.map_some]
theorem eqvAll_strs : ∀ a b : List Str, PyData.eqvAll (a.map PyData.str) (b.map PyData.str) = decide (a = b)
  | [], [] => by simp [PyData.eqvAll]
  | [], _ :: _ => by simp [PyData.eqvAll]
  | _ :: _, [] => by simp [PyData.eqvAll]
  | x :: a, y :: b => by
    simp only [List.map_cons, PyData.eqvAll, PyData.eqv, eqvAll_strs a b, List.cons.injEq]
    by_cases h : x = y <;> simp [h]
theorem eqv_pT (a b : List Str) : PyData.eqv (pT a) (pT b) = decide (a = b) := by
  unfold pT
  simp only [PyData.eqv, eqvAll_strs]
theorem eqvAll_pT : ∀ a b : List (List Str), PyData.eqvAll (a.map pT) (b.map pT) = decide (a = b)
  | [], [] => by simp [PyData.eqvAll]
  | [], _ :: _ => by simp [PyData.eqvAll]
  | _ :: _, [] => by simp [PyData.eqvAll]
  | x :: a, y :: b => by
    simp only [List.map_cons, PyData.eqvAll, eqv_pT, eqvAll_pT a b, List.cons.injEq]
    by_cases h : x = y <;> simp [h]
theorem depth_strs : ∀ f : List Str, PyData.depthAll (f.map PyData.str) = 0
  | [] => rfl
  | x :: f => by simp only [List.map_cons, PyData.depthAll, PyData.depth, depth_strs f]; rfl
theorem lay_strs : ∀ {f : List Str}, (∀ z ∈ f, PyData.strOk z = true) → PyData.canLayAll0 (f.map PyData.str) = true
  | [], _ => rfl
  | x :: f, h => by
    simp only [List.map_cons, PyData.canLayAll0, PyData.canLay0, h x List.mem_cons_self, lay_strs fun z hz => h z (List.mem_cons_of_mem _ hz), Bool.and_self]
theorem shaped_pT {f : List Str} (h : ∀ z ∈ f, PyData.strOk z = true) : SeqAt.shaped (pT f) = true := by
  unfold SeqAt.shaped pT
  simp only [PyData.canLay0, lay_strs h, PyData.depth, depth_strs, Bool.true_and]
  rfl
theorem depth_pTs : ∀ fs : List (List Str), PyData.depthAll (fs.map pT) ≤ 1
  | [] => Nat.zero_le _
  | x :: fs => by
    have := depth_pTs fs
    simp only [List.map_cons, PyData.depthAll]
    have hx : (pT x).depth = 1 := by unfold pT; simp only [PyData.depth, depth_strs]
    omega
theorem lay_pTs : ∀ {fs : List (List Str)}, (∀ f ∈ fs, ∀ z ∈ f, PyData.strOk z = true) → PyData.canLayAll0 (fs.map pT) = true
  | [], _ => rfl
  | x :: fs, h => by
    have hx : (pT x).canLay0 = true := by unfold pT; simp only [PyData.canLay0, lay_strs (h x List.mem_cons_self)]
    simp only [List.map_cons, PyData.canLayAll0, hx, Bool.true_and]
    exact lay_pTs fun f hf => h f (List.mem_cons_of_mem _ hf)
theorem shaped_pTs {fs : List (List Str)} (h : ∀ f ∈ fs, ∀ z ∈ f, PyData.strOk z = true) : SeqAt.shaped (.list (fs.map pT)) = true ∧ SeqAt.shaped (.tuple (fs.map pT)) = true := by
  have := depth_pTs fs
  unfold SeqAt.shaped
  simp only [PyData.canLay0, lay_pTs h, PyData.depth, Bool.true_and]
  have hd : decide (PyData.depthAll (fs.map pT) + 1 ≤ 64) = true := decide_eq_true (by omega)
  exact ⟨hd, hd⟩
section
variable {S : Sto} {f g : List Str}
theorem eq_tD (hf : ∀ z ∈ f, PyData.strOk z = true) (hg : ∀ z ∈ g, PyData.strOk z = true) : dEq (tD f) (tD g) S = some (.bl (decide (f = g)), S) := by
  unfold dEq
  rw [eq_of (toPw_tD _ f) (toPw_tD _ g) (shaped_pT hf) (shaped_pT hg) (.inl rfl), eqv_pT]
  rfl
theorem ne_tD (hf : ∀ z ∈ f, PyData.strOk z = true) (hg : ∀ z ∈ g, PyData.strOk z = true) : dNe (tD f) (tD g) S = some (.bl (!decide (f = g)), S) := by
  unfold dNe
  rw [eq_of (toPw_tD _ f) (toPw_tD _ g) (shaped_pT hf) (shaped_pT hg) (.inl rfl), eqv_pT]
  rfl
theorem toP_lst {n : Nat} {fs : List (List Str)} (e : S[n]? = some (.lst (fs.map tD))) : toP S (.ref n) = some (.list (fs.map pT)) := by
  unfold toP
  simp only [toPw]
  unfold LEV gP
  simp only [e, toPws_tDs, Option.map_some]
theorem eq_lsts {n m : Nat} {fs gs : List (List Str)} (e1 : S[n]? = some (.lst (fs.map tD))) (e2 : S[m]? = some (.lst (gs.map tD))) (hf : ∀ f ∈ fs, ∀ z ∈ f, PyData.strOk z = true) (hg : ∀ f ∈ gs, ∀ z ∈ f, PyData.strOk z = true) :
    dEq (.ref n) (.ref m) S = some (.bl (decide (fs = gs)), S) := by
  unfold dEq
  rw [eq_of (toP_lst e1) (toP_lst e2) (shaped_pTs hf).1 (shaped_pTs hg).1 (.inl rfl)]
  simp only [PyData.eqv, eqvAll_pT, Option.map_some]
/-- x in (y, ..) -/
theorem in_tDs {fs : List (List Str)} (hf : ∀ z ∈ f, PyData.strOk z = true) (hs : ∀ g ∈ fs, ∀ z ∈ g, PyData.strOk z = true) : inD (tD f) (.tup (fs.map tD)) S = some (fs.any fun g => decide (g = f)) := by
  have e2 : toP S (.tup (fs.map tD)) = some (.tuple (fs.map pT)) := by
    unfold toP
    simp only [toPw, toPws_tDs, Option.map_some]
  have e1 : toP S (tD f) = some (pT f) := toPw_tD _ f
  have hh : (SeqAt.shaped (pT f) && SeqAt.shaped (.tuple (fs.map pT))) = true := by rw [shaped_pT hf, (shaped_pTs hs).2]; rfl
  have : inD (tD f) (.tup (fs.map tD)) S = some ((fs.map pT).any fun z => PyData.eqv z (pT f)) := by
    unfold inD
    split
    · rename_i h1 h2; cases h1
    · simp only [e1, e2, if_pos hh]
  rw [this, List.any_map]
  congr 2
  funext g
  exact eqv_pT g f
theorem cut_take {xs : List D} (m : Nat) : cutD xs none (some (m : Int)) = xs.take m := by
  unfold cutD
  rw [HT.sIx_nat]
  show (xs.drop 0).take (min m xs.length - 0) = _
  rw [List.drop_zero, Nat.sub_zero]
  rcases Nat.le_total m xs.length with h | h
  · rw [Nat.min_eq_left h]
  · rw [Nat.min_eq_right h, List.take_length, List.take_of_length_le h]
theorem cut_drop {xs : List D} (m : Nat) : cutD xs (some (m : Int)) none = xs.drop m := by
  unfold cutD
  rw [HT.sIx_nat]
  show (xs.drop (min m xs.length)).take (xs.length - min m xs.length) = _
  rcases Nat.le_total m xs.length with h | h
  · rw [Nat.min_eq_left h, List.take_of_length_le (by rw [List.length_drop]; omega)]
  · rw [Nat.min_eq_right h, List.drop_length, List.drop_of_length_le h]; simp
theorem sl_take (f : List Str) (m : Nat) : dSl (tD f) none (some (m : Int)) S = some (tD (f.take m), S) := by
  show some (D.tup (cutD (f.map .str) none (some (m : Int))), S) = _
  rw [cut_take, ← List.map_take]; rfl
theorem sl_drop (f : List Str) (m : Nat) : dSl (tD f) (some (m : Int)) none S = some (tD (f.drop m), S) := by
  show some (D.tup (cutD (f.map .str) (some (m : Int)) none), S) = _
  rw [cut_drop, ← List.map_drop]; rfl
theorem sl_inits (i : List Str) (l : Str) : dSl (tD (i ++ [l])) none (some (-1)) S = some (tD i, S) := by
  unfold tD
  rw [List.map_append]
  exact sl_init _ _
theorem ix_lasts (i : List Str) (l : Str) : dIx (tD (i ++ [l])) (.int (-1)) S = some (.str l, S) := by
  unfold tD
  rw [List.map_append]
  exact ix_last _ _
theorem add_tD (hl : f.length + g.length ≤ 1000000) : dAdd (tD f) (tD g) S = some (tD (f ++ g), S) := by
  unfold tD
  rw [add_tup (by simpa using hl), List.map_append]
theorem len_tD : bLen [tD f] S = some (.int f.length, S) := by
  show some (D.int ((f.map D.str).length : Nat), S) = _
  rw [List.length_map]
theorem ne_unitD : dNe (tD f) (.tup []) S = some (.bl (!f.isEmpty), S) := by
  unfold tD
  rw [ne_unit]
  cases f <;> rfl
theorem eq_unitD : dEq (tD f) (.tup []) S = some (.bl f.isEmpty, S) := by
  unfold tD
  rw [eq_unit]
  cases f <;> rfl
theorem list_tD : bList [tD f] S = some (.ref S.length, S ++ [.lst (f.map .str)]) := rfl
end
end DL

set_option maxHeartbeats 2000000
/-! an own error: class X(G): def __init__(self, p, ..): super().__init__('..'); self.p = p; ..; class G(Exception) -/
namespace PySem
namespace DX
open PySem.W PySem.Calls PyProof.Rows PySem.HandSPX PySem.ESX
/-- what the written part says of X, at C, of G, at G, and of X's __init__, at fI -/
structure XTxt (prog : Program) (K : Frag) (mg : Str → Option Value) (x : Str) (C G fI cda cc : Addr) (q : Str) (pa : Arguments) (B : List Stmt) (sc : Scope) (fs : List Str) : Prop where
  gC : mg x = some (.ref C)
  cls : ∃ nm qn N bs sn sub ab col dd k0 k1 k2 k3 k5, K.lookup C = some (excClassObj nm qn C N bs (.ref G :: exTail) true sn sub ab col dd k0 k1 k2 k3 k5 "Exception.__new__")
  sa : findIn K (.ref C) "__setattr__" = some (some (.builtin "object.__setattr__"))
  ga : findIn K (.ref C) "__getattribute__" = some (some (.builtin "BaseException.__getattribute__"))
  gg : findIn K (.ref C) "__getattr__" = some none
  noN : ∀ f ∈ fs, findIn K (.ref C) f = some none
  iC : findIn K (.ref C) "__init__" = some (some (.ref fI))
  tC : typeIn K (.ref fI) = some (.type "function")
  kC : keepIn K (.ref C) = true
  exC : subIn K (.ref C) (.type "BaseException") = some true
  exE : subIn K (.ref C) (.type "Exception") = some true
  tyC : typeIn K (.ref C) = some (.type "type")
  hdC : hasDictIn K C = true
  sup : alongIn K "__init__" (.ref G :: exTail) = some (some (.builtin "Exception.__init__"))
  opq : nsIn K cStatics "thirdparty.any" = some none
  cell : ∃ cl cld csl, K.lookup cc = some ⟨cl, cld, .cell (some (.ref C)), csl⟩
  code : ∃ ccl cdd vs ccs file tf, K.lookup cda = some ⟨ccl, cdd, .fields vs, ccs⟩ ∧ vs[2]? = some (.str file tf) ∧ ((prog.main.file : Str) == file) = true
  top : (prog.main.scope.names.lookup ("super" : Str)).isSome = false
  noS : mg "super" = none
  fn : ∃ (oc : Value) (od : Option Addr) (doc pm : Value) (an : Option Addr) (ct : Value) (osl : Array (Option Value)), K.lookup fI = some ⟨oc, od, .func (ksFn "__init__" q pa B sc .none .none doc pm an (.ref cda) ct cc), osl⟩ ∧ codeIn K (.ref cda) q = true

section
variable {prog : Program} {w : World} {A : Around} {E : Value → Shared → Prop} {K : Frag} {mg mb : Str → Option Value} {x : Str} {C G fI cda cc e L : Addr} {q : Str} {pa : Arguments} {B : List Stmt} {sc : Scope} {fs : List Str} {h : Heap} {g : Array GenState} {d : Drawn} {t : Nat} {os : OsState} {m : Str → Option Value}
theorem ns_but {h h' : Heap} {x L : Addr} {m : Str → Option Value} (hn : h.Ns L m) (hL : L ≠ x) (k : ∀ b o, b ≠ x → h.get? b = some o → h'.get? b = some o) : h'.Ns L m := by
  obtain ⟨oL, es, ep, hL', r⟩ := hn
  exact ⟨oL, es, ep, k _ _ hL hL', r⟩
/-- super().__init__('..') -/
theorem sup_call {pl : Sem Bool} {body : List Stmt} {p0 p1 p2 p3 p4 p5 : Pos} {msg : Str} {j : Nat} {t0 : Addr} {ar : Arg} {Q : Flow → Shared → Prop} (T : XTxt prog K mg x C G fI cda cc q pa B sc fs)
    (hpa : (pa.posonlyargs ++ pa.args).head? = some ar) (har : ar.arg = "self") (hk : sc.kind = .function) (hks : sc.names.lookup ("super" : Str) = some .globalImplicit) (hkc : sc.names.lookup ("__class__" : Str) = some .free) (hka : sc.names.lookup ("self" : Str) = some .local)
    (X : K.In h) (glob : h.Ns mainGlobals mg) (blt : h.Ns builtinsNs mb) (boot : mb "super" = some (.type "super")) (hns : h.Ns L m) (hv : m "self" = some (.ref e)) (he : h.get? e = some (excO C t0))
    (hq : ∀ h' t' t1, (∀ b o, b ≠ e → h.get? b = some o → h'.get? b = some o) → h.objs.size ≤ h'.objs.size → h'.get? e = some (excO C t1) → Q .next ⟨h', g, d, t', os⟩)
    (hi : interactive (ksEnv q sc L fI (.ref cda) cc) = false) (hsw : swapsWith (.Call (.Attribute (.Call (.Name "super" p0) [] [] p1) "__init__" p2) [.Constant (.str msg) j p3] [] p4) none p5.line (ksEnv q sc L fI (.ref cda) cc) = pure false)
    (hev : eval (.Call (.Attribute (.Call (.Name "super" p0) [] [] p1) "__init__" p2) [.Constant (.str msg) j p3] [] p4) (ksEnv q sc L fI (.ref cda) cc) = (do
      let ov ← attributeBase (.Call (.Name "super" p0) [] [] p1) "__init__" (ksEnv q sc L fI (.ref cda) cc) (eval (.Call (.Name "super" p0) [] [] p1) (ksEnv q sc L fI (.ref cda) cc))
      standAt p2.atName
      let (f, first) ← holding [ov] (getMethod ov "__init__" pl)
      callWith p4 f first (backTo p4 (starEach [.Constant (.str msg) j p3] (ksEnv q sc L fI (.ref cda) cc))) [])) :
    _root_.PySem.wpAt (model prog w) A (.func body (ksEnv q sc L fI (.ref cda) cc)) (exec (.Expr (.Call (.Attribute (.Call (.Name "super" p0) [] [] p1) "__init__" p2) [.Constant (.str msg) j p3] [] p4) p5) (ksEnv q sc L fI (.ref cda) cc)) Q E ⟨h, g, d, t, os⟩ := by
  obtain ⟨oc, od, doc, pm, an, ct, osl, hfI, hcd⟩ := T.fn
  obtain ⟨nm, qn, N, bs, sn, sub, ab, col, dd, k0, k1, k2, k3, k5, hC⟩ := T.cls
  obtain ⟨cl, cld, csl, hcell⟩ := T.cell
  obtain ⟨ccl, cdd, vs, ccs, file, tf, hcode, hvs, hfile⟩ := T.code
  have hcl : clsIn K C = some { name := nm, bases := bs, mro := .ref C :: .ref G :: exTail, ns := N, qualname := qn, hasDict := true, slotNames := sn, subclasses := sub, abstract := ab, collection := col, hasDel := false } := by unfold clsIn; rw [hC] <;> rfl
  have I : InstAt h e (excO C t0) C none := ⟨he, rfl, rfl, trivial⟩
  refine ks_wpAt_Expr_any (ks_wpAt_MethodCall ?_ hev) hi hsw
  refine ks_wpAt_super_base (env := ksEnv q sc L fI (.ref cda) cc) hks hkc (by decide) rfl (X _ _ hfI) rfl hpa rfl (X _ _ hcode) rfl hvs hfile T.top ?_
  refine ks_loadName_global hk hks (loadGlobal_builtin (env := ksEnv q sc L fI (.ref cda) cc) glob T.noS blt boot ⟨rfl, ?_⟩)
  refine wpAny_loadName_free hk hkc rfl ⟨_, X _ _ hcell, rfl⟩ ?_
  rw [har]
  refine wpAny_loadName_local hk hka hns hv ?_
  refine ks_wpAny_isType_cls (X _ _ hC) rfl ⟨rfl, ?_⟩
  have hsub : mroIn K C (.ref C) = some true := by
    unfold mroIn
    rw [hcl, Option.bind_some, if_neg (show ¬ (List.isEmpty (Value.ref C :: .ref G :: exTail) = true) from Bool.false_ne_true)]
    simp
  refine ks_wpAny_call_super (X _ _ hC) rfl he rfl (fun c z => nomatch z) (looks_mroIn X hsub) (fun h2 e2 kk2 => ?_)
  have X2 : K.In h2 := X.keeps kk2
  have hhC : Looks (model prog w) h2 (mroOf (.ref C)) (.ref C :: .ref G :: exTail) := fun A Q E s k q => wpAny_bind ((looks_clsIn X2 hcl) A _ E s k (wpAny_pure q))
  have hxC : e ≠ C := ks_ne X I hcl
  have I2 : InstAt h2 e (excO C t0) C none := ⟨kk2 _ _ he, rfl, rfl, trivial⟩
  have hin : Looks (model prog w) h2 (isInstance (.ref e) (.type "Exception")) true := I2.type.andThen (looks_subIn X2 T.exE)
  refine ESX.getMethod_super e2 (looks_opaque X2 T.opq) hhC (l := .ref G :: exTail) (by simp [List.dropWhile_cons]) X2 T.sup hxC (by decide) hin ?_
  have hu : (h2.push (bw e)).get? h2.objs.size = some (bw e) := Heap.get?_push_at rfl rfl
  have kk3 : ∀ b o, h2.get? b = some o → (h2.push (bw e)).get? b = some o := fun b o z => Heap.get?_push_of_some _ z
  refine ESX.callWith_bound (x := e) ?_
  refine PyProof.Rows.spliced_more (wpAny_Constant_str (PyProof.Rows.spliced_none ⟨hu, ?_⟩)) rfl
  refine ESX.call_bw (kk3 _ _ (kk2 _ _ (X _ _ hC))) (kk3 _ _ (kk2 _ _ he)) hu (by rw [sizeLine_eq]; exact (by decide : 1 ≤ 16777216)) fun h4 t1 k4 e4 => ?_
  have s2 := Heap.lt_size e2
  have se := Heap.lt_size he
  have s4 := Heap.lt_size (k4 h2.objs.size _ (Nat.ne_of_gt (Nat.lt_trans se s2)) hu)
  exact hq h4 _ t1 (fun b o hb z => k4 b o hb (kk3 _ _ (kk2 _ _ z))) (Nat.le_of_lt (Nat.lt_trans s2 s4)) e4
end

/-! ### self.p = p -/
section
open Builtin Builtin.ObjectAttr
variable {prog : Program} {w : World} {A : Around} {R : Result → Shared → Prop} {K : Frag} {h : Heap} {g : Array GenState} {d : Drawn} {t : Nat} {os : OsState} {e C G : Addr} {cd : ClassData} {y : Str} {ty : Tok} {u : Value}
theorem both_has {b : Value} (hb : exTail.contains b = true) : (Value.ref C :: .ref G :: exTail).contains b = true := by
  simp only [List.contains_cons, hb, Bool.or_true]
theorem set_walk {oe : Obj} {od : Option Obj} (kin : K.In h) (inst : InstAt h e oe C od) (cls : clsIn K C = some cd) (mro : cd.mro = .ref C :: .ref G :: exTail) (free : findIn K (.ref C) y = some none)
    (go : wpAny (model prog w) A.in1 (storeInOwnDict (.ref e) (.ref C) (.str y ty) y u false)
      (fun fin s' => match fin with
        | .done f => R (.ok f) s'
        | .again c' => c'.quiet = true ∧ codeAny (model prog w) A c' R s') (fun er s' => R (.error er) s') ⟨h, g, d, t, os⟩) :
    codeAny (model prog w) A (.call (.builtin "object.__setattr__") ⟨[.ref e, .str y ty, u], []⟩) R ⟨h, g, d, t, os⟩ := by
  have facts := F.store_object
  have isObj : Looks (model prog w) h (isInstance (.ref e) (.type "object")) true := by
    refine inst.type.andThen (looks_mroIn kin ?_)
    unfold mroIn
    rw [cls, Option.bind_some, mro, if_neg (by simp), both_has (by decide +kernel)]
  refine codeAny_call_builtin facts.slot.plain facts.entry ?_
  refine @W.check_slot (model prog w) _ _ ⟨h, g, d, t, os⟩ "object.__setattr__" "object" "__setattr__" (.ref e) [.str y ty, u] [] _ facts.kind facts.split isObj (facts.args (.ref e) (.str y ty) u) ?_
  have mroL : Looks (model prog w) h (mroOf (.ref C)) cd.mro := (looks_clsIn kin cls).andThen .now
  have noTaker : Looks (model prog w) h (storeTaker? none) none := .now
  have pass : refuseLoop (.ref e) "__setattr__" cd.mro = pure () := by
    rw [mro, refuseLoop_ref, refuseLoop_ref]
    exact F.store_Exception.passes _
  rw [W.osa_eq, refuse_eq]
  refine wpAny_bind (wpAny_bind (inst.type.at (wpAny_bind (mroL.at ?_))))
  rw [pass]
  refine wpAny_pure (wpAny_bind (inst.type.at ?_))
  exact wpAny_bind ((looks_findIn kin free).at (wpAny_bind (noTaker.at go)))
theorem set_first {fv : Array Value} (kin : K.In h) (he : h.get? e = some { cls := .ref C, data := .fields fv }) (cls : clsIn K C = some cd) (mro : cd.mro = .ref C :: .ref G :: exTail) (hd : cd.hasDict = true) (free : findIn K (.ref C) y = some none)
    (go : ∀ h' t' dx, (∀ b o, b ≠ e → h.get? b = some o → h'.get? b = some o) → h.objs.size ≤ dx → dx ≠ e → h'.get? e = some { cls := .ref C, dict := some dx, data := .fields fv } →
      h'.Ns1 dx (fun z => if z = y then some u else none) → R (.ok (.ret .none)) ⟨h', g, d, t', os⟩) :
    codeAny (model prog w) A (.call (.builtin "object.__setattr__") ⟨[.ref e, .str y ty, u], []⟩) R ⟨h, g, d, t, os⟩ := by
  have ne : e ≠ h.objs.size := Nat.ne_of_lt (Heap.lt_size he)
  refine set_walk kin (od := none) ⟨he, rfl, rfl, trivial⟩ cls mro free ?_
  have look : Looks (model prog w) h (classData C) cd := looks_clsIn kin cls
  obtain ⟨c1, c2, c3, c4, c5, c6, c7, c8, c9, c10, c11⟩ := cd
  dsimp only at hd
  subst hd
  unfold storeInOwnDict ownDictForStores
  repeat (first
    | with_reducible refine HandSPX.store_in_new ?_ ?_
    | with_reducible refine wpAny_loadPart_at he ?_
    | with_reducible refine look.at ?_
    | wp_step)
  · refine ⟨_, #[], _, (Heap.get?_update_ne _ _ _ _ ne.symm).trans (Heap.get?_push_at rfl rfl), rfl, fun z hz => ?_, fun _ => rfl⟩
    exact absurd hz (by simp)
  · intro h2 t2 ns same
    have he2 : (h.push { cls := .type "dict", data := .dict #[] }).get? e = some { cls := .ref C, data := .fields fv } := Heap.get?_push_of_some _ he
    refine go h2 t2 h.objs.size (fun b o hb z => ?_) (Nat.le_refl _) ne.symm ?_ ns
    · exact (same.2 b (Nat.ne_of_lt (Heap.lt_size z))).trans ((Heap.get?_update_ne _ _ _ _ hb).trans (Heap.get?_push_of_some _ z))
    · exact (same.2 e ne).trans (Heap.get?_update_self _ he2 rfl)
theorem set_more {fv : Array Value} {dx : Addr} {m0 : Str → Option Value} {nl : List Str} (kin : K.In h) (he : h.get? e = some { cls := .ref C, dict := some dx, data := .fields fv }) (ns : h.Ns1 dx m0) (wi : Within m0 nl) (len : nl.length ≤ 1000)
    (cls : clsIn K C = some cd) (mro : cd.mro = .ref C :: .ref G :: exTail) (hd : cd.hasDict = true) (free : findIn K (.ref C) y = some none)
    (go : ∀ h' t', (∀ b o, b ≠ dx → h.get? b = some o → h'.get? b = some o) → h'.Ns1 dx (fun z => if z = y then some u else m0 z) → R (.ok (.ret .none)) ⟨h', g, d, t', os⟩) :
    codeAny (model prog w) A (.call (.builtin "object.__setattr__") ⟨[.ref e, .str y ty, u], []⟩) R ⟨h, g, d, t, os⟩ := by
  obtain ⟨oD, _, _, hoD, _, _⟩ := ns.count wi
  refine set_walk kin (od := some oD) ⟨he, rfl, rfl, hoD⟩ cls mro free ?_
  have look : Looks (model prog w) h (classData C) cd := looks_clsIn kin cls
  obtain ⟨c1, c2, c3, c4, c5, c6, c7, c8, c9, c10, c11⟩ := cd
  dsimp only at hd
  subst hd
  unfold storeInOwnDict ownDictForStores
  repeat (first
    | with_reducible refine store_in_old ns wi len ?_
    | with_reducible refine wpAny_loadPart_at he ?_
    | with_reducible refine look.at ?_
    | wp_step)
  exact fun h2 t2 ns2 same => go h2 t2 (fun b o hb z => (same.2 b hb).trans z) ns2
end

/-! ### the call of __init__, and of X -/
/-- how the stores stand in the text -/
structure St1 where
  f : Str
  a : Pos
  b : Pos
  c : Pos
  d : Pos
def stmtOf (z : St1) : Stmt := .Assign [.Attribute (.Name "self" z.a) z.f z.b] (.Name z.f z.c) z.d
/-- what the fields are -/
def fldM : List (Str × Value) → Str → Option Value
  | [], _ => none
  | (f, v) :: r, y => if y = f then some v else fldM r y
theorem fldM_within : ∀ l : List (Str × Value), Within (fldM l) (l.map (·.1))
  | [], y, hy => by simp [fldM] at hy
  | (f, v) :: r, y, hy => by
    by_cases z : y = f
    · simp [z]
    · have : fldM r y ≠ none := by simpa [fldM, z] using hy
      have := fldM_within r y this
      simp [this]
/-- an error that has been made -/
structure Made (h h' : Heap) (e C d : Addr) (l : List (Str × Value)) : Prop where
  keep : ∀ b o, b ≠ e → h.get? b = some o → h'.get? b = some o
  obj : ∃ t1, h'.get? e = some { cls := .ref C, dict := some d, data := .fields #[.ref t1, .none, .none, .none, .bool false, .none] }
  big : h.objs.size ≤ d
  ne : d ≠ e
  ns : h'.Ns1 d (fldM l)
/-- the error at e as it stands in __init__ -/
def Now (h : Heap) (e C : Addr) (done : List (Str × Value)) (h0 : Heap) : Prop :=
  (done = [] ∧ ∃ t1, h.get? e = some (excO C t1)) ∨ ∃ d t1, h.get? e = some { cls := .ref C, dict := some d, data := .fields #[.ref t1, .none, .none, .none, .bool false, .none] } ∧ h.Ns1 d (fldM done) ∧ h0.objs.size ≤ d ∧ d ≠ e
section
variable {prog : Program} {w : World} {A : Around} {E : Value → Shared → Prop} {K : Frag} {mg mb : Str → Option Value} {x : Str} {C G fI cda cc e L : Addr} {q : Str} {pa : Arguments} {B : List Stmt} {sc : Scope} {fs : List Str} {g : Array GenState} {d : Drawn} {os : OsState} {m : Str → Option Value} {h0 : Heap}
theorem kept_in {h h' : Heap} (X : K.In h) (he : K.lookup e = none) (k : ∀ b o, b ≠ e → h.get? b = some o → h'.get? b = some o) : K.In h' := fun a o z =>
  k a o (fun y => by rw [y, he] at z; cases z) (X a o z)
theorem stores_go (T : XTxt prog K mg x C G fI cda cc q pa B sc fs) (hk : sc.kind = .function) (hka : sc.names.lookup ("self" : Str) = some .local) (hv : m "self" = some (.ref e)) (hne : K.lookup e = none) (hLe : L ≠ e) (X0 : K.In h0) (ns0 : h0.Ns L m) :
    ∀ (l : List (St1 × Value)) (done : List (Str × Value)) (h : Heap) (t : Nat) (Q : Flow → Shared → Prop), h0.objs.size ≤ h.objs.size → (∀ b o, b ≠ e → h0.get? b = some o → h.get? b = some o) →
      (∀ z ∈ l, m z.1.f = some z.2 ∧ sc.names.lookup z.1.f = some .local ∧ z.1.f ∈ fs ∧ (z.1.f == ("__debug__" : Str)) = false) → Now h e C done h0 → done.length + l.length ≤ 900 →
      (∀ h' t', (∀ b o, b ≠ e → h0.get? b = some o → h'.get? b = some o) → Now h' e C ((l.map fun z => (z.1.f, z.2)).reverse ++ done) h0 → Q .next ⟨h', g, d, t', os⟩) →
      wpAny (model prog w) A (execs (l.map fun z => stmtOf z.1) (ksEnv q sc L fI (.ref cda) cc)) Q E ⟨h, g, d, t, os⟩
  | [], done, h, t, Q, hsz, k0, hl, now, hz, hq => wpAny_execs_nil (hq h t k0 (by simpa using now))
  | (z, u) :: l, done, h, t, Q, hsz, k0, hl, now, hz, hq => by
    have X : K.In h := kept_in X0 hne k0
    have hns := ns_but ns0 hLe k0
    obtain ⟨nm, qn, N, bs, sn, sub, ab, col, dd, c0, c1, c2, c3, c5, hC⟩ := T.cls
    have hcl : clsIn K C = some { name := nm, bases := bs, mro := .ref C :: .ref G :: exTail, ns := N, qualname := qn, hasDict := true, slotNames := sn, subclasses := sub, abstract := ab, collection := col, hasDel := false } := by unfold clsIn; rw [hC] <;> rfl
    obtain ⟨h1, h2, h3, h4⟩ := hl (z, u) List.mem_cons_self
    refine wpAny_execs_cons (plainObj_wpAny_Assign_Attribute ?_)
    refine ESX.ldL (v := u) hns h1 (ESX.ldL (v := .ref e) hns hv ?_ hk hka (by decide)) hk h2 h4
    have hno := T.noN _ h3
    have next : ∀ (h' : Heap) (t' : Nat), (∀ b o, b ≠ e → h0.get? b = some o → h'.get? b = some o) → h0.objs.size ≤ h'.objs.size → Now h' e C ((z.f, u) :: done) h0 →
        wpAny (model prog w) A (execs (l.map fun z => stmtOf z.1) (ksEnv q sc L fI (.ref cda) cc)) Q E ⟨h', g, d, t', os⟩ := fun h' t' k hs now' => by
      refine stores_go T hk hka hv hne hLe X0 ns0 l ((z.f, u) :: done) h' t' Q hs k (fun y hy => hl y (List.mem_cons_of_mem _ hy)) now' (by simp at hz ⊢; omega) fun h'' t'' kk n => hq h'' t'' kk ?_
      simpa using n
    rcases now with ⟨rfl, t1, ex⟩ | ⟨dx, t1, ex, ns, hd0, hde⟩
    · refine set_plain X (ox := excO C t1) (od := none) ⟨ex, rfl, rfl, trivial⟩ T.sa ?_
      refine set_first X ex hcl rfl rfl hno fun h' t' dx k hdx hne' ex' ns' => ?_
      have hs : h.objs.size ≤ h'.objs.size := by
        obtain ⟨oD, _, _, hoD, _⟩ := ns'
        exact Nat.le_of_lt (Nat.lt_of_le_of_lt hdx (Heap.lt_size hoD))
      exact next h' t' (fun b o hb y => k b o hb (k0 b o hb y)) (Nat.le_trans hsz hs) (.inr ⟨dx, t1, ex', ns', Nat.le_trans hsz hdx, hne'⟩)
    · obtain ⟨oD, _, _, hoD, _, _⟩ := ns.count (fldM_within done)
      refine set_plain X (ox := { cls := .ref C, dict := some dx, data := .fields #[.ref t1, .none, .none, .none, .bool false, .none] }) (od := some oD) ⟨ex, rfl, rfl, hoD⟩ T.sa ?_
      refine set_more X ex ns (fldM_within done) (by rw [List.length_map]; simp at hz; omega) hcl rfl rfl hno fun h' t' k ns' => ?_
      have hs : h0.objs.size ≤ h'.objs.size := by
        obtain ⟨oD, _, _, hoD, _⟩ := ns'
        exact Nat.le_of_lt (Nat.lt_of_le_of_lt hd0 (Heap.lt_size hoD))
      refine next h' t' (fun b o hb y => k b o (fun w => ?_) (k0 b o hb y)) hs (.inr ⟨dx, t1, k _ _ (Ne.symm hde) ex, ns', hd0, hde⟩)
      exact absurd (Heap.lt_size y) (by rw [w]; exact Nat.not_lt.mpr hd0)
/-- X.__init__(e, v, ..): what B is in the text -/
theorem init_go {l : List (St1 × Value)} {p0 p1 p2 p3 p4 p5 : Pos} {msg : Str} {j : Nat} {pl : Sem Bool} {ar : Arg} {t : Nat} {tt : Addr} {hp : Heap} {R : Result → Shared → Prop} {args : Args} {binds : List (Str × Value)} (T : XTxt prog K mg x C G fI cda cc q pa B sc fs)
    (hB : B = .Expr (.Call (.Attribute (.Call (.Name "super" p0) [] [] p1) "__init__" p2) [.Constant (.str msg) j p3] [] p4) p5 :: l.map fun z => stmtOf z.1)
    (hpa : (pa.posonlyargs ++ pa.args).head? = some ar) (har : ar.arg = "self") (hk : sc.kind = .function) (hks : sc.names.lookup ("super" : Str) = some .globalImplicit) (hkc : sc.names.lookup ("__class__" : Str) = some .free) (hka : sc.names.lookup ("self" : Str) = some .local)
    (hcell : ∀ x ∈ sc.names, x.2 ≠ .cell) (hco : sc.isCoroutine = false) (hge : sc.isGenerator = false)
    (X : K.In hp) (glob : hp.Ns mainGlobals mg) (blt : hp.Ns builtinsNs mb) (boot : mb "super" = some (.type "super")) (hlim : hp.NoLimit) (hroom : A.depth < recursionLimit) (he : hp.get? e = some (excO C tt)) (hne : K.lookup e = none)
    (hbind : ∀ oc od doc pm an ct osl, K.lookup fI = some ⟨oc, od, .func (ksFn "__init__" q pa B sc .none .none doc pm an (.ref cda) ct cc), osl⟩ → BindsTo ⟨hp, g, d, t, os⟩ (ksFn "__init__" q pa B sc .none .none doc pm an (.ref cda) ct cc) args binds) (hloc : ∀ y ∈ binds, sc.names.lookup y.1 = some .local)
    (hself : binds.reverse.lookup ("self" : Str) = some (.ref e)) (hl : ∀ z ∈ l, binds.reverse.lookup z.1.f = some z.2 ∧ sc.names.lookup z.1.f = some .local ∧ z.1.f ∈ fs ∧ (z.1.f == ("__debug__" : Str)) = false) (hz : l.length ≤ 900) (hl0 : l ≠ [])
    (hi : ∀ L, interactive (ksEnv q sc L fI (.ref cda) cc) = false) (hsw : ∀ L, swapsWith (.Call (.Attribute (.Call (.Name "super" p0) [] [] p1) "__init__" p2) [.Constant (.str msg) j p3] [] p4) none p5.line (ksEnv q sc L fI (.ref cda) cc) = pure false)
    (hev : ∀ L, eval (.Call (.Attribute (.Call (.Name "super" p0) [] [] p1) "__init__" p2) [.Constant (.str msg) j p3] [] p4) (ksEnv q sc L fI (.ref cda) cc) = (do
      let ov ← attributeBase (.Call (.Name "super" p0) [] [] p1) "__init__" (ksEnv q sc L fI (.ref cda) cc) (eval (.Call (.Name "super" p0) [] [] p1) (ksEnv q sc L fI (.ref cda) cc))
      standAt p2.atName
      let (f, first) ← holding [ov] (getMethod ov "__init__" pl)
      callWith p4 f first (backTo p4 (starEach [.Constant (.str msg) j p3] (ksEnv q sc L fI (.ref cda) cc))) []))
    (hq : ∀ h' t' dx, Made hp h' e C dx (l.map fun z => (z.1.f, z.2)).reverse → R (.ok (.ret .none)) ⟨h', g, d, t', os⟩) :
    codeAny (model prog w) A (.call (.ref fI) args) R ⟨hp, g, d, t, os⟩ := by
  obtain ⟨oc, od, doc, pm, an, ct, osl, hfI, hcd⟩ := T.fn
  refine ks_codeAny_call_defAt (fd := ksFn "__init__" q pa B sc .none .none doc pm an (.ref cda) ct cc) (body := B) (binds := binds) hroom (X _ _ hfI) rfl hlim (codeRec_of X hcd) rfl (hbind _ _ _ _ _ _ _ hfI) hcell hloc (fun h1 hns k1 => ?_) hco hge hk
  have X1 : K.In h1 := X.keeps k1
  have hLe : hp.objs.size ≠ e := Nat.ne_of_gt (Heap.lt_size he)
  have hL1 : hp.objs.size < h1.objs.size := hns.lt
  subst hB
  refine ks_wpAt_execs_cons (sup_call (body := _) (ar := ar) T hpa har hk hks hkc hka X1 (glob.keeps k1) (blt.keeps k1) boot hns hself (k1 _ _ he) (fun h2 t2 t1 k2 hs2 e2 => ?_) (hi _) (hsw _) (hev _))
  refine wpAt_of_wpAny (stores_go T hk hka hself hne hLe X1 hns l [] h2 t2 _ hs2 k2 hl (.inl ⟨rfl, t1, e2⟩) (by simpa using hz) fun h3 t3 k3 now => ?_)
  rw [List.append_nil] at now
  rcases now with ⟨z, _⟩ | ⟨dx, t4, e3, ns3, hd, hde⟩
  · exfalso
    apply hl0
    have := List.reverse_eq_nil_iff.mp z
    exact List.map_eq_nil_iff.mp this
  · have hfin := hq h3 t3 dx ⟨fun b o hb y => k3 b o hb (k1 b o y), ⟨t4, e3⟩, Nat.le_trans (Nat.le_of_lt hL1) hd, hde, ns3⟩
    exact hfin
end
end DX
end PySem

set_option maxHeartbeats 2000000
namespace PySem
namespace DX
open PySem.W PySem.Calls PyProof.Rows PySem.HandSPX PySem.ESX
abbrev supSt (p0 p1 p2 p3 p4 p5 : Pos) (msg : Str) (j : Nat) : Stmt := .Expr (.Call (.Attribute (.Call (.Name "super" p0) [] [] p1) "__init__" p2) [.Constant (.str msg) j p3] [] p4) p5
/-- the text of an own error's __init__ -/
structure XForm (q : Str) (pa : Arguments) (B : List Stmt) (sc : Scope) (fs : List Str) : Prop where
  body : ∃ (p0 p1 p2 p3 p4 p5 : Pos) (msg : Str) (j : Nat) (zs : List St1) (pl : Sem Bool), B = supSt p0 p1 p2 p3 p4 p5 msg j :: zs.map stmtOf ∧ zs.map (·.f) = fs ∧
    (∀ (fI cda cc L : Addr), interactive (ksEnv q sc L fI (.ref cda) cc) = false ∧
      swapsWith (.Call (.Attribute (.Call (.Name "super" p0) [] [] p1) "__init__" p2) [.Constant (.str msg) j p3] [] p4) none p5.line (ksEnv q sc L fI (.ref cda) cc) = pure false ∧
      eval (.Call (.Attribute (.Call (.Name "super" p0) [] [] p1) "__init__" p2) [.Constant (.str msg) j p3] [] p4) (ksEnv q sc L fI (.ref cda) cc) = (do
        let ov ← attributeBase (.Call (.Name "super" p0) [] [] p1) "__init__" (ksEnv q sc L fI (.ref cda) cc) (eval (.Call (.Name "super" p0) [] [] p1) (ksEnv q sc L fI (.ref cda) cc))
        standAt p2.atName
        let (f, first) ← holding [ov] (getMethod ov "__init__" pl)
        callWith p4 f first (backTo p4 (starEach [.Constant (.str msg) j p3] (ksEnv q sc L fI (.ref cda) cc))) []))
  self : ∃ ar : Arg, (pa.posonlyargs ++ pa.args).head? = some ar ∧ ar.arg = "self"
  kind : sc.kind = .function
  super : sc.names.lookup ("super" : Str) = some .globalImplicit
  cls : sc.names.lookup ("__class__" : Str) = some .free
  loc : sc.names.lookup ("self" : Str) = some .local
  locs : ∀ f ∈ fs, sc.names.lookup f = some .local ∧ (f == ("__debug__" : Str)) = false ∧ f ≠ "self"
  nd : fs.Nodup
  few : fs.length ≤ 20
  some : fs ≠ []
  cell : ∀ x ∈ sc.names, x.2 ≠ .cell
  co : sc.isCoroutine = false
  ge : sc.isGenerator = false
  bind : ∀ (doc pm : Value) (an : Option Addr) (cdv ct : Value) (cc : Addr) (e : Value) (us : List Value), us.length = fs.length → bindArgs (ksFn "__init__" q pa B sc .none .none doc pm an cdv ct cc) ⟨e :: us, []⟩ = pure ((("self" : Str), e) :: fs.zip us)
theorem look_zip {fs : List Str} (nd : fs.Nodup) : ∀ {us : List Value} {f : Str} {v : Value}, (f, v) ∈ fs.zip us → (fs.zip us).lookup f = some v := by
  induction fs with
  | nil => intro us f v h; simp at h
  | cons g fs ih =>
    intro us f v h
    cases us with
    | nil => simp at h
    | cons u us =>
      rw [List.zip_cons_cons] at h ⊢
      rw [List.nodup_cons] at nd
      rcases List.mem_cons.mp h with e | h
      · cases e; simp [List.lookup]
      · have : f ≠ g := fun z => nd.1 (by rw [← z]; exact (List.of_mem_zip h).1)
        have hb : (f == g) = false := by simpa using this
        simp only [List.lookup, hb]
        exact ih nd.2 h
theorem look_rev {β : Type} : ∀ {l : List (Str × β)} {f : Str} {v : β}, (l.map (·.1)).Nodup → l.lookup f = some v → l.reverse.lookup f = some v
  | [], f, v, _, h => by cases h
  | (g, u) :: l, f, v, nd, h => by
    rw [List.map_cons, List.nodup_cons] at nd
    rw [List.reverse_cons, List.lookup_append]
    by_cases z : f = g
    · subst z
      have : (f == f) = true := by simp
      simp only [List.lookup, this, Option.some.injEq] at h
      subst h
      have hn : l.reverse.lookup f = none := by
        rw [List.lookup_eq_none_iff]
        intro p hp
        have : p.1 ≠ f := fun z => nd.1 (by rw [← z]; exact List.mem_map.mpr ⟨p, List.mem_reverse.mp hp, rfl⟩)
        simpa using Ne.symm this
      rw [hn]; simp [List.lookup]
    · have hb : (f == g) = false := by simpa using z
      simp only [List.lookup, hb] at h
      rw [look_rev nd.2 h]; rfl
section
variable {prog : Program} {w : World} {A : Around} {R : Result → Shared → Prop} {K : Frag} {mg mb : Str → Option Value} {x : Str} {C G fI cda cc : Addr} {q : Str} {pa : Arguments} {B : List Stmt} {sc : Scope} {fs : List Str} {hp : Heap} {g : Array GenState} {d : Drawn} {t : Nat} {os : OsState}
/-- X(v, ..) -/
theorem made (T : XTxt prog K mg x C G fI cda cc q pa B sc fs) (Fm : XForm q pa B sc fs) {us : List Value} (hu : us.length = fs.length) (X : K.In hp) (glob : hp.Ns mainGlobals mg) (blt : hp.Ns builtinsNs mb) (boot : mb "super" = some (.type "super")) (hlim : hp.NoLimit) (hroom : A.depth + 1 < recursionLimit)
    (hq : ∀ h' t' e dx, hp.objs.size ≤ e → (∀ b o, hp.get? b = some o → h'.get? b = some o) → (∃ t1, h'.get? e = some { cls := .ref C, dict := some dx, data := .fields #[.ref t1, .none, .none, .none, .bool false, .none] }) → hp.objs.size ≤ dx → dx ≠ e → h'.Ns1 dx (fldM (fs.zip us).reverse) →
      R (.ok (.ret (.ref e))) ⟨h', g, d, t', os⟩) :
    codeAny (model prog w) A (.call (.ref C) ⟨us, []⟩) R ⟨hp, g, d, t, os⟩ := by
  obtain ⟨nm, qn, N, bs, sn, sub, ab, col, dd, k0, k1, k2, k3, k5, hC⟩ := T.cls
  obtain ⟨p0, p1, p2, p3, p4, p5, msg, j, zs, pl, hB, hzs, hw⟩ := Fm.body
  obtain ⟨ar, har, has⟩ := Fm.self
  have hzl : zs.length = us.length := by rw [hu, ← hzs, List.length_map]
  have k : ∀ b o, hp.get? b = some o → ((hp.push (kdv_tup us)).push (excO C hp.objs.size)).get? b = some o := fun b o e => Heap.get?_push_of_some _ (Heap.get?_push_of_some _ e)
  have hget : ((hp.push (kdv_tup us)).push (excO C hp.objs.size)).get? (hp.objs.size + 1) = some (excO C hp.objs.size) := by heap_get
  have hnx : K.lookup (hp.objs.size + 1) = none := by
    cases e : K.lookup (hp.objs.size + 1) with
    | none => rfl
    | some o => exact absurd (Nat.lt_of_succ_lt (Heap.lt_size (X _ _ e))) (Nat.lt_irrefl _)
  have husz : us.length ≤ sizeLine := by
    have := Fm.few
    rw [sizeLine_eq]; omega
  refine call_own F.excBase_Exception (fun Y => ?_) (X _ _ hC) (looks_findIn X T.iC) (fun self => bind_fn X self T.tC) husz ?_
  · simp only [List.contains_cons]
    have : (Value.type Y == Value.ref G) = false := rfl
    rw [this]
    rfl
  refine init_go (A := A.under (.builtin "type.__call__" ⟨.ref C :: us, []⟩)) (R := W.InitBack (hp.objs.size + 1) R) (g := g) (d := d) (t := t) (os := os) (l := zs.zip us) (binds := (("self" : Str), .ref (hp.objs.size + 1)) :: fs.zip us) (args := ⟨.ref (hp.objs.size + 1) :: us, []⟩) (pl := pl) (msg := msg) (j := j) T (by
      rw [hB, List.cons.injEq]
      refine ⟨rfl, ?_⟩
      have : (zs.zip us).map (fun z => stmtOf z.1) = ((zs.zip us).map (·.1)).map stmtOf := by rw [List.map_map]; rfl
      rw [this, List.map_fst_zip (by omega)]) har has Fm.kind Fm.super Fm.cls Fm.loc Fm.cell Fm.co Fm.ge (X.keeps k) (glob.keeps k) (blt.keeps k) boot (hlim.keeps k) (by show A.depth + 1 < _; exact hroom) hget hnx
    (fun oc od doc pm an ct osl _ => .of_eq (Fm.bind doc pm an _ ct cc _ us hu)) ?_ ?_ ?_ ?_ ?_ (fun L => (hw fI cda cc L).1) (fun L => (hw fI cda cc L).2.1) (fun L => (hw fI cda cc L).2.2) ?_
  · intro y hy
    rcases List.mem_cons.mp hy with rfl | hy
    · exact Fm.loc
    · exact (Fm.locs _ (List.of_mem_zip hy).1).1
  · rw [List.reverse_cons, List.lookup_append]
    have : (fs.zip us).reverse.lookup ("self" : Str) = none := by
      rw [List.lookup_eq_none_iff]
      intro p hp
      have : p.1 ≠ "self" := (Fm.locs _ (List.of_mem_zip (List.mem_reverse.mp hp)).1).2.2
      simpa using Ne.symm this
    rw [this]
    simp [List.lookup]
  · intro z hz
    have hm : (z.1.f, z.2) ∈ fs.zip us := by
      rw [← hzs]
      obtain ⟨i, hi⟩ := List.getElem?_of_mem hz
      obtain ⟨e1, e2⟩ := List.getElem?_zip_eq_some.mp hi
      exact List.mem_of_getElem? (i := i) (List.getElem?_zip_eq_some.mpr ⟨by rw [List.getElem?_map, e1]; rfl, e2⟩)
    have hf := (List.of_mem_zip hm).1
    refine ⟨?_, (Fm.locs _ hf).1, hf, (Fm.locs _ hf).2.1⟩
    rw [List.reverse_cons, List.lookup_append, look_rev ?_ (look_zip Fm.nd hm)]
    · rfl
    · rw [List.map_fst_zip (by omega)]; exact Fm.nd
  · rw [List.length_zip]
    have := Fm.few
    omega
  · intro z
    apply Fm.some
    have h1 : (zs.zip us).length = 0 := by rw [z]; rfl
    rw [List.length_zip] at h1
    have : zs = [] := List.length_eq_zero_iff.mp (by omega)
    rw [← hzs, this]; rfl
  · intro h' t' dx M
    have el : (zs.zip us).map (fun z => (z.1.f, z.2)) = fs.zip us := by
      rw [← hzs, List.zip_map_left]
      exact List.map_congr_left fun z _ => rfl
    rw [el] at M
    have old : ∀ b o, hp.get? b = some o → h'.get? b = some o := fun b o z => M.keep b o (Nat.ne_of_lt (Nat.lt_succ_of_lt (Heap.lt_size z))) (k b o z)
    have z : hp.objs.size + 1 + 1 ≤ dx := by
      have q := M.big
      first
        | (simpa only [Heap.size_push] using q)
        | exact q
    exact ⟨rfl, hq h' t' (hp.objs.size + 1) dx (Nat.le_succ _) old M.obj (Nat.le_trans (Nat.le_trans (Nat.le_succ _) (Nat.le_succ _)) z) M.ne M.ns⟩
end
theorem sup_of {K : W.Frag} {G : Addr} {nm qn N bs sn sub ab col dd k0 k1 k2 k3 k5} {v : Value} (h : K.lookup G = some (excClassObj nm qn G N bs PySem.ESX.exTail true sn sub ab col dd k0 k1 k2 k3 k5 "Exception.__new__"))
    (hf : W.findIn K (.ref G) "__init__" = some (some v)) : W.alongIn K "__init__" (.ref G :: PySem.ESX.exTail) = some (some v) := by
  simp only [W.findIn, h] at hf
  exact hf
end DX
end PySem
namespace L2
open PySem PySem.Spec PyProof.Rows PySem.DX
inductive Flds : List (Str × V) → List (Str × Value) → Prop where
  | nil : Flds [] []
  | cons {f : Str} {v : V} {u : Value} {l : List (Str × V)} {r : List (Str × Value)} (a : RelV v u) (t : Flds l r) : Flds ((f, v) :: l) ((f, u) :: r)
theorem Flds.app {a c : List (Str × V)} {b d : List (Str × Value)} (x : Flds a b) (y : Flds c d) : Flds (a ++ c) (b ++ d) := by
  induction x with
  | nil => exact y
  | cons r t ih => exact .cons r ih
theorem Flds.rev {a : List (Str × V)} {b : List (Str × Value)} (x : Flds a b) : Flds a.reverse b.reverse := by
  induction x with
  | nil => exact .nil
  | cons r t ih => rw [List.reverse_cons, List.reverse_cons]; exact ih.app (.cons r .nil)
theorem Flds.zip {vs : List V} {us : List Value} (r : Vals vs us) : ∀ fs : List Str, Flds (fs.zip vs) (fs.zip us) := by
  induction r with
  | nil => intro fs; simp only [List.zip_nil_right]; exact .nil
  | cons a t ih =>
    intro fs
    cases fs with
    | nil => exact .nil
    | cons f fs => exact .cons a (ih fs)
theorem Flds.rel {a : List (Str × V)} {b : List (Str × Value)} (x : Flds a b) (y : Str) : RelO (a.lookup y) (fldM b y) := by
  induction x with
  | nil => trivial
  | @cons f v u l r rv t ih =>
    unfold fldM
    by_cases z : y = f
    · subst z
      have : (y == y) = true := by simp
      simp only [List.lookup, this, if_true]
      exact rv
    · have hb : (y == f) = false := by simpa using z
      simp only [List.lookup, hb, if_neg z]
      exact ih
/-- X(e, ..), X an own error -/
def tMkX (C : Addr) (fs : List Str) (ta : TA) : St → Hp → XK → Prop := fun σ H Q => ta σ H fun vs H1 => vs.length = fs.length ∧ ∀ d, H1 d = none → Q (.ref C) (some d) (upd H1 d (.xd (fs.zip vs).reverse))
theorem pmk_x {X : Cx} {x : Str} {C G fI cda cc : Addr} {q : Str} {pa : Arguments} {B : List Stmt} {sc : Scope} {fs : List Str} {e : Expr} {es : List Expr} {ta : TA} {p pos : Pos} {k : Nat} (T : XTxt X.prog X.K X.mg x C G fI cda cc q pa B sc fs) (Fm : XForm q pa B sc fs) (hr : Room k X.A) (ha : PA X (e :: es) ta)
    (hg : Gl X x := by rfl) (hdb : (x == ("__debug__" : Str)) = false := by decide) (he : starEach (e :: es) X.env = (false, eval e X.env) :: starEach es X.env := by rfl) (hpl : (backTo pos (starEach es X.env)).any (·.1) = false := by rfl) :
    PMk X (.Call (.Name x p) (e :: es) [] pos) (tMkX C fs ta) := by
  intro pins s σ H Q I h
  refine wpAny_Call_Name_kw (ld_glob I hg T.gC ?_ hdb)
  refine PySem.W.callWith_K (h₀ := X.base) I.ok.mod.kin T.kC (thn (ha.run pos pins s σ H _ I h) fun us s1 hh => ?_) he hpl
  obtain ⟨vs, H1, I1, r1, hl, q1⟩ := hh
  refine ⟨I1.kIn, ?_⟩
  have e0 := I1.env0
  have before : ∀ b o, X.base.get? b = some o → s1.heap.get? b = some o := fun b o z => (e0.bs b o z).1
  obtain ⟨mb, hb, boot⟩ := e0.mod.blt
  have hlim := I1.nolimit
  have hul : us.length = fs.length := by rw [← r1.length]; exact hl
  obtain ⟨hp, g, dr, tk, os⟩ := s1
  show wpAny _ _ (call (.ref C) us) _ _ _
  refine wpAny_call (made T Fm hul I1.kIn (e0.mod.glob.keeps before) (hb.keeps before) ((boot _ (by decide)).trans (by decide +kernel)) hlim (by have := hr.dp; omega) fun h' tk' e dx hne old hobj hd hde hns => ?_)
  show MkP X pins σ Q (.ref e) ⟨h', g, dr, tk', os⟩
  obtain ⟨t1, hobj⟩ := hobj
  obtain ⟨G', g1, g2⟩ := restrict h' fun b => decide (b ≠ e)
  have gk : ∀ b, b ≠ e → G'.get? b = h'.get? b := fun b hb => g1 b (decide_eq_true hb)
  have ge : G'.get? e = none := g2 e (by simp)
  have old' : ∀ b o, hp.get? b = some o → G'.get? b = some o := fun b o q => (gk b (Nat.ne_of_lt (Nat.lt_of_lt_of_le (Heap.lt_size q) hne))).trans (old b o q)
  have ob : ObjOk X.prog X.w (upd H1 dx (.xd (fs.zip vs).reverse)) G' dx (.xd (fs.zip vs).reverse) :=
    ⟨_, hns.at (fun o q => (gk dx hde).trans q), fun f => ((Flds.zip r1 fs).rev).rel f⟩
  have J : Inv X pins σ (upd H1 dx (.xd (fs.zip vs).reverse)) ⟨G', g, dr, tk', os⟩ := I1.laid (t' := tk') old' hd ob
  refine ⟨e, _, _, ⟨G', g, dr, tk', os⟩, _, .ref C, some dx, rfl, J, fun b o q => ?_, ge, hobj, ⟨rfl, rfl⟩, rfl, rfl, ?_, rfl, I1.bare, raises_own T.exC T.tyC, q1 dx (I1.hok.fresh hd)⟩
  · by_cases hb : b = e
    · have q' : G'.get? b = some o := q
      rw [hb, ge] at q'; cases q'
    · exact (gk b hb).symm.trans q
  · rw [upd_ne (Ne.symm hde)]
    exact I1.hok.fresh hne
end L2

/-! the D-layer: own errors raised and caught -/
namespace DL
open PySem L2

section
variable {K : PySem.W.Frag} {ι ι' : List Addr} {H H' : Hp} {S : Sto} {ρ : Ev} {σ : L2.St}
theorem RX.mono {e : Exn} {cls : Value} {d : Option Addr} (x : Ext K ι H ι' H') (r : RX K ι H e cls d) : RX K ι' H' e cls d := by
  obtain ⟨c, r⟩ := r
  refine ⟨c, ?_⟩
  rcases r with r | ⟨dd, vs, e1, e2, e3⟩
  · exact .inl r
  · exact .inr ⟨dd, vs, e1, x.xd _ _ e2, RKs.mono x e3⟩
theorem RKs.zipD {ds : List D} {vs : List V} : ∀ (fs : List Str), RDs K ι H ds vs → RKs K ι H (fs.zip ds) (fs.zip vs) := by
  induction ds generalizing vs with
  | nil =>
    intro fs r
    simp only [RDs] at r
    subst r
    rw [List.zip_nil_right, List.zip_nil_right]
    simp only [RKs]
  | cons d ds ih =>
    intro fs r
    simp only [RDs] at r
    obtain ⟨v, vr, rfl, a, t⟩ := r
    cases fs with
    | nil => rw [List.zip_nil_left, List.zip_nil_left]; simp only [RKs]
    | cons f fs =>
      rw [List.zip_cons_cons, List.zip_cons_cons]
      simp only [RKs]
      exact ⟨v, _, rfl, a, ih fs t⟩
theorem RKs.app {κ : Type} : ∀ {as bs : List (κ × D)} {us vs : List (κ × V)}, RKs K ι H as us → RKs K ι H bs vs → RKs K ι H (as ++ bs) (us ++ vs)
  | [], bs, us, vs, h, q => by simp only [RKs] at h; subst h; exact q
  | (k, d) :: as, bs, us, vs, h, q => by
    simp only [RKs] at h
    obtain ⟨v, r, rfl, a, t⟩ := h
    show RKs K ι H ((k, d) :: (as ++ bs)) ((k, v) :: (r ++ vs))
    simp only [RKs]
    exact ⟨v, _, rfl, a, RKs.app t q⟩
theorem RKs.rev {κ : Type} : ∀ {as : List (κ × D)} {us : List (κ × V)}, RKs K ι H as us → RKs K ι H as.reverse us.reverse
  | [], us, h => by simp only [RKs] at h; subst h; simp only [List.reverse_nil, RKs]
  | (k, d) :: as, us, h => by
    simp only [RKs] at h
    obtain ⟨v, r, rfl, a, t⟩ := h
    rw [List.reverse_cons, List.reverse_cons]
    exact (RKs.rev t).app (by simp only [RKs]; exact ⟨v, [], rfl, a, rfl⟩)
theorem RKs.look : ∀ {as : List (Str × D)} {us : List (Str × V)} {f : Str} {d : D}, RKs K ι H as us → as.lookup f = some d → ∃ v, us.lookup f = some v ∧ RD K ι H d v
  | [], us, f, d, h, e => by cases e
  | (k, d0) :: as, us, f, d, h, e => by
    simp only [RKs] at h
    obtain ⟨v, r, rfl, a, t⟩ := h
    simp only [List.lookup] at e ⊢
    split at e
    · cases e; exact ⟨v, rfl, a⟩
    · exact RKs.look t e
theorem RE.unset (r : RE K ι H ρ σ) (i : Nat) (o : Option V) : RE K ι H (ρ.set i none) (σ.set i o) := by
  refine ⟨by simp [r.len], fun j d' e => ?_⟩
  by_cases hj : j = i
  · subst hj
    have hl : j < ρ.length := by
      have := (List.getElem?_eq_some_iff.mp e).1
      simpa using this
    rw [List.getElem?_set_self hl] at e
    cases e
  · rw [List.getElem?_set_ne (Ne.symm hj)] at e
    obtain ⟨u, a, b⟩ := r.at_ j d' e
    exact ⟨u, by rw [List.getElem?_set_ne (Ne.symm hj)]; exact a, b⟩
end

theorem kit_yes {K : PySem.W.Frag} {C G : Addr} (hd : PySem.W.hasDictIn K G = true) (ht : PySem.W.typeIn K (.ref G) = some (.type "type")) (h : PySem.W.subIn K (.ref C) (.ref G) = some true) : PySem.W.kitOne K (.ref C) (.ref G) = some true := by
  obtain ⟨cd, hc, _⟩ := PySem.W.any_some hd
  have e : ((PySem.W.clsIn K G).isSome && PySem.W.typeIn K (.ref G) == some (.type "type")) = true := by rw [hc, ht] <;> rfl
  unfold PySem.W.kitOne
  split
  · rfl
  · show (if ((PySem.W.clsIn K G).isSome && PySem.W.typeIn K (.ref G) == some (.type "type")) = true then PySem.W.subIn K (.ref C) (.ref G) else none) = some true
    rw [if_pos e]; exact h
theorem kit_no {K : PySem.W.Frag} {C G : Addr} (hd : PySem.W.hasDictIn K G = true) (ht : PySem.W.typeIn K (.ref G) = some (.type "type")) (h : PySem.W.subIn K (.ref C) (.ref G) = some false) (ne : (Value.ref C == Value.ref G) = false) : PySem.W.kitOne K (.ref C) (.ref G) = some false := by
  obtain ⟨cd, hc, _⟩ := PySem.W.any_some hd
  have e : ((PySem.W.clsIn K G).isSome && PySem.W.typeIn K (.ref G) == some (.type "type")) = true := by rw [hc, ht] <;> rfl
  unfold PySem.W.kitOne
  rw [if_neg (by rw [ne]; exact Bool.false_ne_true)]
  show (if ((PySem.W.clsIn K G).isSome && PySem.W.typeIn K (.ref G) == some (.type "type")) = true then PySem.W.subIn K (.ref C) (.ref G) else none) = some false
  rw [if_pos e]; exact h

/-! ### raise X(e, ..) -/
def sRaise (x : Str) (fs : List Str) (ms : AM) : SM := fun ρ S => (ms ρ S).bindS ρ fun ds S1 => if ds.length = fs.length then .ex ⟨x, (fs.zip ds).reverse⟩ ρ S1 else .stk
/-- what the module says of an own error's class -/
def XOk (P : Program) (K : PySem.W.Frag) (mg : Str → Option Value) (x : Str) (fs : List Str) : Prop :=
  ∃ C G fI cda cc q pa B sc, DX.XTxt P K mg x C G fI cda cc q pa B sc fs ∧ DX.XForm q pa B sc fs ∧ clsAt K x C
section
variable {X : Cx} {W : WX} {e : Expr} {es : List Expr} {ms : AM} {p pos pos2 : Pos} {x : Str} {fs : List Str} {k : Nat}
theorem ss_raise (hc : X.calm = true) (tk : Takes X W) (T : XOk X.prog X.K X.mg x fs) (hr : GR k X.A) (ha : SA X W (e :: es) ms)
    (hg : Gl X x := by rfl) (hdb : (x == ("__debug__" : Str)) = false := by decide) (he : starEach (e :: es) X.env = (false, eval e X.env) :: starEach es X.env := by rfl) (hpl : (backTo pos (starEach es X.env)).any (·.1) = false := by rfl) :
    SS X W (.Raise (some (.Call (.Name x p) (e :: es) [] pos)) none pos2) (sRaise x fs ms) := by
  obtain ⟨C, G, fI, cda, cc, q, pa, B, sc, T, Fm, cn⟩ := T
  refine PS.imp (ps_raise hc tk (pmk_x T Fm hr.room ha hg hdb he hpl)) fun D σ H h => ?_
  obtain ⟨ι, ρ, S, re, rs, h⟩ := h
  refine ⟨ι, ρ, S, re, rs, PR.imp (fun v H1 hh => ?_) (PR.bindS (rel := rDs X.K) re h)⟩
  obtain ⟨ι1, ds, S1, x1, rs1, r1, h1⟩ := hh
  split at h1
  · rename_i hl
    refine ⟨by rw [r1.length]; exact hl, fun d hd => ?_⟩
    refine h1 ι1 σ _ (.ref C) (some d) (.new hd) (rs1.new hd) ((re.mono x1).mono (.new hd)) ⟨⟨C, cn, rfl⟩, .inr ⟨d, _, rfl, upd_same, ?_⟩⟩
    exact RKs.mono (.new hd) (RKs.rev (RKs.zipD fs r1))
  · exact h1.elim
end

/-! ### try .. except X as e -/
def SR.unset (i : Nat) : SR → SR
  | .nx ρ S => .nx (ρ.set i none) S
  | .bk ρ S => .bk (ρ.set i none) S
  | .ct ρ S => .ct (ρ.set i none) S
  | .rt d S => .rt d S
  | _ => .stk
/-- yes: the classes that the clause takes; no: those that it lets pass -/
def sTry (i : Nat) (body : SM) (yes no : List Str) (ms : Exn → SM) : SM := fun ρ S => match body ρ S with
  | .ex e ρ' S' => if i < ρ'.length then (if e.C ∈ yes then (ms e (ρ'.set i none) S').unset i else if e.C ∈ no then .ex e ρ' S' else .stk) else .stk
  | r => r
def WN : WX := fun _ _ _ _ => False
/-- a suite's reading: slot i is the error's -/
def tSX (K : PySem.W.Frag) (i : Nat) (a : Addr) (cls : Value) (d : Option Addr) (ms : Exn → SM) : TS := fun D σ H =>
  ∃ ι ρ S e, RE K ι H ρ σ ∧ RS K ι H S ∧ σ[i]? = some (some (.ref a)) ∧ RX K ι H e cls d ∧ PQ K WN ι H D (ms e ρ S)
def tX {α β : Type} (K : PySem.W.Frag) (rel : Rel α β) (i : Nat) (a : Addr) (cls : Value) (d : Option Addr) (m : Exn → Ev → Sto → R α) : L2.St → Hp → (β → Hp → Prop) → Prop := fun σ H Q =>
  ∃ ι ρ S e, RE K ι H ρ σ ∧ RS K ι H S ∧ σ[i]? = some (some (.ref a)) ∧ RX K ι H e cls d ∧ PR K rel WN σ ι H Q (m e ρ S)
def Mtc (K : PySem.W.Frag) (x : Str) (c : Value) (b : Bool) : Prop := ∀ C, clsAt K x C → PySem.W.exmOne K (.ref C) c = some b
section
variable {X : Cx} {W : WX} {x n : Str} {c : Value} {i : Nat} {body suite : List Stmt} {b₀ : Stmt} {np pos pos' : Pos} {m : SM} {ms : Exn → SM} {yes no : List Str}
theorem PQ.unset {K : PySem.W.Frag} {ι : List Addr} {H : Hp} {D : Ends} {r : SR} (h : PQ K W ι H D (r.unset i)) :
    PQ K WN ι H { nx := fun σ' H' => D.nx (σ'.set i none) H', rt := D.rt, bk := fun σ' H' => D.bk (σ'.set i none) H', ct := fun σ' H' => D.ct (σ'.set i none) H' } r := by
  cases r with
  | stk => exact h
  | nx ρ S => exact fun ι' σ' H' x' rs' re' => h ι' _ H' x' rs' (re'.unset i none)
  | bk ρ S => exact fun ι' σ' H' x' rs' re' => h ι' _ H' x' rs' (re'.unset i none)
  | ct ρ S => exact fun ι' σ' H' x' rs' re' => h ι' _ H' x' rs' (re'.unset i none)
  | rt d S => exact h
  | ex e ρ S => exact h.elim
theorem ss_try_as (i : Nat) (yes no : List Str) (tk : Takes X W) (hN : X.N.Nodup) (hc : Names X x c) (hy : ∀ z ∈ yes, Mtc X.K z c true) (hn : ∀ z ∈ no, Mtc X.K z c false)
    (hb : ∀ (W' : WX) (pn : List (Addr × Obj)) (xe : Value → Shared → Prop), Takes (X.tr pn xe) W' → PassesOwn (model X.prog X.w) X.A X.env xe → SSs (X.tr pn xe) W' body m)
    (hsu : ∀ (a : Addr) (oe : Obj) (cls : Value) (d : Option Addr) (pn : List (Addr × Obj)), Zc cls d oe → (∃ vs, oe.data = .fields vs) → PSs (X.suite a ((a, oe) :: pn)) (b₀ :: suite) (tSX X.K i a cls d ms))
    (hs : X.stack = X.env :: X.outer := by rfl) (hf : X.env.frame = some X.env.locals := by rfl) (hi : X.N[i]? = some n := by rfl) (hln : X.env.kindOf n = some .local := by rfl) :
    SS X W (.Try body [.ExceptHandler (some (.Name x np)) (some n) (b₀ :: suite) pos'] [] [] pos) (sTry i m yes no ms) := by
  refine PS.imp (ps_try_as hs hf hN hi hln hc tk (tb := fun W => tSM X.K W m) (fun W pn xe tk' po => hb W pn xe tk' po) hsu) fun D σ H h => ?_
  obtain ⟨ι, ρ, S, re, rs, h⟩ := h
  refine ⟨ι, ρ, S, re, rs, ?_⟩
  unfold sTry at h
  cases em : m ρ S with
  | stk => rw [em] at h; exact h
  | nx ρ' S' => rw [em] at h; exact h
  | rt d S' => rw [em] at h; exact h
  | bk ρ' S' => rw [em] at h; exact h
  | ct ρ' S' => rw [em] at h; exact h
  | ex e ρ' S' =>
    rw [em] at h
    simp only at h
    intro ι' σ' H' cls dd x' rs' re' rx
    have rx0 := rx
    obtain ⟨⟨C, hC, ec⟩, _⟩ := rx0
    subst ec
    split at h
    · rename_i hil
      split at h
      · rename_i h1
        refine ⟨true, hy _ h1 C hC, fun _ a ha => ?_, fun z => nomatch z⟩
        refine ⟨ι', ρ'.set i none, S', e, re'.unset i _, rs', ?_, rx, PQ.unset (PQ.mono x' h)⟩
        rw [List.getElem?_set_self (by rw [← re'.len]; exact hil)]
      · split at h
        · rename_i h2
          exact ⟨false, hn _ h2 C hC, fun z => (nomatch z), fun _ => h ι' σ' H' _ dd x' rs' re' rx⟩
        · exact h.elim
    · exact h.elim
end

/-! ### what a suite says -/
section
variable {X : Cx} {i j : Nat} {a : Addr} {oe : Obj} {cls : Value} {d : Option Addr} {pn : List (Addr × Obj)} {e e2 c : Expr} {es : List Expr} {pos p p1 p2 : Pos} {m m2 : Exn → EM} {ms : Exn → AM} {t : Exn → TM}
abbrev XE (X : Cx) (oe : Obj) (pn : List (Addr × Obj)) (i : Nat) (a : Addr) (cls : Value) (d : Option Addr) (e : Expr) (m : Exn → EM) : Prop := PE (X.suite a ((a, oe) :: pn)) e (tX X.K (rD X.K) i a cls d m)
abbrev XA (X : Cx) (oe : Obj) (pn : List (Addr × Obj)) (i : Nat) (a : Addr) (cls : Value) (d : Option Addr) (e : List Expr) (m : Exn → AM) : Prop := PA (X.suite a ((a, oe) :: pn)) e (tX X.K (rDs X.K) i a cls d m)
abbrev XT (X : Cx) (oe : Obj) (pn : List (Addr × Obj)) (i : Nat) (a : Addr) (cls : Value) (d : Option Addr) (e : Expr) (m : Exn → TM) : Prop := PT (X.suite a ((a, oe) :: pn)) e (tX X.K rB i a cls d m)
theorem xe_of {m : EM} (h : SE (X.suite a ((a, oe) :: pn)) WN e m) : XE X oe pn i a cls d e (fun _ => m) := PE.imp h fun σ H Q hh => by
  obtain ⟨ι, ρ, S, z, re, rs, _, _, h⟩ := hh
  exact ⟨ι, ρ, S, re, rs, h⟩
theorem xa_nil : XA X oe pn i a cls d [] (fun _ => aNil) := PA.imp pa_nil fun σ H Q h => by
  obtain ⟨ι, ρ, S, z, re, rs, _, _, h⟩ := h
  exact h.ret rs RDs.nil
theorem xa_cons (he : XE X oe pn i a cls d e m) (hr : XA X oe pn i a cls d es ms) (hs : starEach (e :: es) X.env = (false, eval e X.env) :: starEach es X.env := by rfl) : XA X oe pn i a cls d (e :: es) (fun z => aCons (m z) (ms z)) := by
  refine PA.imp (pa_cons he hr hs) fun σ H Q h => ?_
  obtain ⟨ι, ρ, S, z, re, rs, hi, rx, h⟩ := h
  refine ⟨ι, ρ, S, z, re, rs, hi, rx, PR.imp (fun v H1 hh => ?_) (PR.bind (rel := rD X.K) h)⟩
  obtain ⟨ι1, d1, S1, x1, rs1, r1, h1⟩ := hh
  refine ⟨ι1, ρ, S1, z, re.mono x1, rs1, hi, rx.mono x1, PR.imp (fun u H2 hh => ?_) (PR.bind (rel := rDs X.K) h1)⟩
  obtain ⟨ι2, d2, S2, x2, rs2, r2, h2⟩ := hh
  exact h2.ret rs2 (.cons (RD.mono x2 r1) r2)
theorem xe_lst (h : XA X oe pn i a cls d es ms) : XE X oe pn i a cls d (.List es pos) (fun z => mLst (ms z)) := by
  refine PE.imp (pe_lst h) fun σ H Q h => ?_
  obtain ⟨ι, ρ, S, z, re, rs, hi, rx, h⟩ := h
  refine ⟨ι, ρ, S, z, re, rs, hi, rx, PR.imp (fun v H1 hh => ?_) (PR.bind (rel := rDs X.K) h)⟩
  obtain ⟨ι1, d1, S1, x1, rs1, r1, h1⟩ := hh
  split at h1
  · rename_i hz
    exact ⟨by rw [r1.length]; exact hz, new_lst rs1 r1 (PV.of (o := some _) h1)⟩
  · exact h1.elim
theorem xe_tup {x1 : Nat} (h : XA X oe pn i a cls d es ms) : XE X oe pn i a cls d (.Tuple es x1 pos) (fun z => mTup (ms z)) := by
  refine PE.imp (pe_tup h) fun σ H Q h => ?_
  obtain ⟨ι, ρ, S, z, re, rs, hi, rx, h⟩ := h
  refine ⟨ι, ρ, S, z, re, rs, hi, rx, PR.imp (fun v H1 hh => ?_) (PR.bind (rel := rDs X.K) h)⟩
  obtain ⟨ι1, d1, S1, x1, rs1, r1, h1⟩ := hh
  split at h1
  · rename_i hz
    exact ⟨by rw [r1.length]; exact hz, new_tup rs1 r1 (PV.of (o := some _) h1)⟩
  · exact h1.elim
theorem xt_tru (he : XE X oe pn i a cls d e m) (hp : ∀ whole, isTrue e X.env whole = (do let v ← whole; standAt e.pos; holding [v] (truthy v)) := by intro _; rfl) : XT X oe pn i a cls d e (fun z => mTru (m z)) := by
  refine PT.imp (pt_truth he hp) fun σ H Q h => ?_
  obtain ⟨ι, ρ, S, z, re, rs, hi, rx, h⟩ := h
  refine ⟨ι, ρ, S, z, re, rs, hi, rx, PR.imp (fun v H1 hh => ?_) (PR.bind (rel := rD X.K) h)⟩
  obtain ⟨ι1, d, S1, x1, rs1, r1, h1⟩ := hh
  cases hk : dTru d S1 with
  | none => simp only [hk] at h1; exact h1.elim
  | some k =>
    simp only [hk] at h1
    exact ⟨k, dTru_ok rs1 r1 hk, h1.ret rs1 rfl⟩
theorem xe_if (hc : XT X oe pn i a cls d c t) (ha : XE X oe pn i a cls d e m) (hb : XE X oe pn i a cls d e2 m2) : XE X oe pn i a cls d (.IfExp c e e2 pos) (fun z => mIf (t z) (m z) (m2 z)) := by
  refine PE.imp (pe_ifExp hc ha hb) fun σ H Q h => ?_
  obtain ⟨ι, ρ, S, z, re, rs, hi, rx, h⟩ := h
  refine ⟨ι, ρ, S, z, re, rs, hi, rx, PR.imp (fun v H1 hh => ?_) (PR.bind (rel := rB) h)⟩
  obtain ⟨ι1, d1, S1, x1, rs1, r1, h1⟩ := hh
  cases r1
  cases v with
  | true => exact iteT ⟨ι1, ρ, S1, z, re.mono x1, rs1, hi, rx.mono x1, h1⟩
  | false => exact iteF ⟨ι1, ρ, S1, z, re.mono x1, rs1, hi, rx.mono x1, h1⟩
theorem xs_set (j : Nat) {x : Str} {pos' : Pos} (hN : X.N.Nodup) (he : XE X oe pn i a cls d e m) (hi : X.N[j]? = some x := by rfl) (hx : Loc X.env.scope x := by first | exact Or.inl rfl | exact Or.inr rfl) (hs : swapsWith e (some (.Name x pos')) pos.line X.env = pure false := by rfl)
    (hf : X.fn x = true ∨ X.env.scope.names.lookup x = some .local := by first | exact .inl rfl | exact .inr rfl | assumption) : PS (X.suite a ((a, oe) :: pn)) (.Assign [.Name x pos'] e pos) (tSX X.K i a cls d fun z => sSet j (m z)) := by
  refine PS.imp (ps_set (X := X.suite a ((a, oe) :: pn)) hN hi hx he hs hf) fun D σ H h => ?_
  obtain ⟨ι, ρ, S, z, re, rs, hi, rx, h⟩ := h
  refine ⟨ι, ρ, S, z, re, rs, hi, rx, PR.imp (fun v H1 hh => ?_) (PR.bindS (rel := rD X.K) re h)⟩
  obtain ⟨ι1, d, S1, x1, rs1, r1, h1⟩ := hh
  exact h1.next rs1 ((re.mono x1).put r1)
theorem xs_one {st : Stmt} {ms : Exn → SM} (h : PS (X.suite a ((a, oe) :: pn)) st (tSX X.K i a cls d ms)) : PSs (X.suite a ((a, oe) :: pn)) [st] (tSX X.K i a cls d ms) := pss_one h
/-- e.f -/
def mXf (yes : List Str) (f : Str) : Exn → EM := fun z _ S => if z.C ∈ yes then (match z.fs.lookup f with | some d => .ok d S | none => .stk) else .stk
def XfN (K : PySem.W.Frag) (x f : Str) : Prop := ∀ C, clsAt K x C → XfC K C ∧ PySem.W.findIn K (.ref C) f = some none
theorem xe_fld {f n : Str} (yes : List Str) (T : ∀ x ∈ yes, XfN X.K x f) (hz : Zc cls d oe) (hf : ∃ vs, oe.data = .fields vs) (hi : X.N[i]? = some n := by rfl) (hv : Vis X.env.scope n := by first | exact Or.inl rfl | exact Or.inr (Or.inl rfl) | exact Or.inr (Or.inr rfl)) (hd : (n == ("__debug__" : Str)) = false := by decide)
    (hcd : (n == ("__classdict__" : Str)) = false := by decide) (hb : attributeBase (.Name n p1) f X.env (eval (.Name n p1) X.env) = eval (.Name n p1) X.env := by rfl) : XE X oe pn i a cls d (.Attribute (.Name n p1) f pos) (mXf yes f) := by
  refine ⟨fun pins s σ H Q I h => ?_⟩
  obtain ⟨ι, ρ, S, z, re, rs, hσ, rx, h⟩ := h
  have rx0 := rx
  obtain ⟨⟨C, hC, ec⟩, rx2⟩ := rx0
  unfold mXf at h
  split at h
  · rename_i hy
    obtain ⟨tc, tn⟩ := T _ hy C hC
    split at h
    · rename_i dv hl
      rcases rx2 with ⟨_, rx2⟩ | ⟨dd, vs, e1, e2, e3⟩
      · rw [rx2] at hl; cases hl
      · obtain ⟨v, lv, rv⟩ := RKs.look e3 hl
        exact (pe_xf (X := X) (cls := cls) (d := d) tc tn hz hf (pe_var (X := X.suite a ((a, oe) :: pn)) (i := i) hi hv hd hcd) hb).run pins s σ H Q I ⟨.ref a, hσ, rfl, ec, dd, vs, v, e1, e2, lv, h.ret rs rv⟩
    · exact h.elim
  · exact h.elim
/-- isinstance(e, C) -/
def mXi (yes no : List Str) : Exn → EM := fun z _ S => if z.C ∈ yes then .ok (.bl true) S else if z.C ∈ no then .ok (.bl false) S else .stk
def XiN (K : PySem.W.Frag) (x : Str) (c : Value) (b : Bool) : Prop := ∀ C, clsAt K x C → ExcC K C ∧ PySem.W.kitOne K (.ref C) c = some b
theorem call_isX {C : Addr} {G : Value} {b : Bool} (T : ExcC X.K C) (k : PySem.W.kitOne X.K (.ref C) G = some b) (hz : Zc cls d oe) (hf : ∃ vs, oe.data = .fields vs) (ec : cls = .ref C) {ι : List Addr} {H0 : Hp} {z : Exn} (rx : RX X.K ι H0 z cls d) :
    CallR (X.suite a ((a, oe) :: pn)) (.builtin "isinstance") (fun vs H Q => H = H0 ∧ (∃ g, vs = [.ref a, g] ∧ ∀ u, RelV g u → u = G) ∧ Q (.bl b) H) := by
  intro pins s σ H xs us Q I r h
  obtain ⟨rfl, ⟨g, rfl, hg⟩, q⟩ := h
  cases r with
  | cons rv rr =>
    cases rr with
    | cons rt rr =>
      cases rr
      cases rv
      have e2 := hg _ rt
      subst e2
      obtain ⟨hget, _⟩ := I.pin (a, oe) (List.mem_append.mpr (.inl List.mem_cons_self))
      obtain ⟨vs, hv⟩ := hf
      obtain ⟨cd, hcl, _⟩ := PySem.W.any_some T.hd
      have hcl' : (PySem.W.clsIn X.K C).isSome = true := by rw [hcl]; rfl
      have hcls : PySem.W.notCls oe = true := by unfold PySem.W.notCls; rw [hv] <;> rfl
      rcases rx.2 with ⟨ed, _⟩ | ⟨dd, fs, ed, ha, _⟩
      · have J : PySem.W.InstAt s.heap a oe C none := ⟨hget, hz.1.trans ec, hcls, by rw [hz.2, ed]; trivial⟩
        exact PySem.W.kia_one (PySem.W.kitx_exc hcl' T.hg T.hk T.hs T.ha T.hn T.ht T.hm) I.kIn J k (fun z => nomatch z) fun tk => ⟨.bl b, H, I.kept (t' := tk) fun _ _ z => z, rfl, q⟩
      · have hx : ObjOk X.prog X.w H s.heap dd (.xd fs) := I.hok dd _ ha
        obtain ⟨mA, hns, hr⟩ := hx
        obtain ⟨od, ho, hl⟩ := lookIn_ns hns
        have J : PySem.W.InstAt s.heap a oe C (some od) := ⟨hget, hz.1.trans ec, hcls, by rw [hz.2, ed]; exact ho⟩
        exact PySem.W.kia_one (PySem.W.kitx_exc hcl' T.hg T.hk T.hs T.ha T.hn T.ht T.hm) I.kIn J k (fun z => nomatch z) fun tk => ⟨.bl b, H, I.kept (t' := tk) fun _ _ z => z, rfl, q⟩
theorem xe_isi {n x : Str} {G : Addr} (yes no : List Str) (hm : X.mg "isinstance" = none) (hG : X.mg x = some (.ref G)) (Ty : ∀ z ∈ yes, XiN X.K z (.ref G) true) (Tn : ∀ z ∈ no, XiN X.K z (.ref G) false) (hz : Zc cls d oe) (hf : ∃ vs, oe.data = .fields vs)
    (hi : X.N[i]? = some n := by rfl) (hv : Vis X.env.scope n := by first | exact Or.inl rfl | exact Or.inr (Or.inl rfl) | exact Or.inr (Or.inr rfl)) (hd : (n == ("__debug__" : Str)) = false := by decide) (hcd : (n == ("__classdict__" : Str)) = false := by decide)
    (hgl : Gl X x := by rfl) (hdx : (x == ("__debug__" : Str)) = false := by decide) (hg : Gl X "isinstance" := by rfl)
    (he : starEach [.Name n p1, .Name x p2] X.env = (false, eval (.Name n p1) X.env) :: starEach [.Name x p2] X.env := by rfl) (he2 : starEach [.Name x p2] X.env = (false, eval (.Name x p2) X.env) :: starEach [] X.env := by rfl) (hpl : (backTo pos (starEach [.Name x p2] X.env)).any (·.1) = false := by rfl) :
    XE X oe pn i a cls d (.Call (.Name "isinstance" p) [.Name n p1, .Name x p2] [] pos) (mXi yes no) := by
  refine ⟨fun pins s σ H Q I h => ?_⟩
  obtain ⟨ι, ρ, S, z, re, rs, hσ, rx, h⟩ := h
  have rx0 := rx
  obtain ⟨⟨C, hC, ec⟩, _⟩ := rx0
  have key : ∀ b, ExcC X.K C → PySem.W.kitOne X.K (.ref C) (.ref G) = some b → Q (.bl b) H → wpAny (model X.prog X.w) (X.suite a ((a, oe) :: pn)).A (eval (.Call (.Name "isinstance" p) [.Name n p1, .Name x p2] [] pos) (X.suite a ((a, oe) :: pn)).env) (EP (X.suite a ((a, oe) :: pn)) pins σ Q) (X.suite a ((a, oe) :: pn)).xe s := fun b T k q =>
    (pe_callB (X := X.suite a ((a, oe) :: pn)) (call_isX (X := X) (pn := pn) T k hz hf ec rx) hg hm rfl (pa_cons (pe_var (X := X.suite a ((a, oe) :: pn)) (i := i) hi hv hd hcd) (pa_cons (pe_glob (X := X.suite a ((a, oe) :: pn)) (v := .ref G) hgl hG rfl hdx) pa_nil he2) he) (by decide) (by decide) he hpl).run pins s σ H Q I
      ⟨.ref a, hσ, rfl, ⟨_, rfl, fun u r => r⟩, q⟩
  unfold mXi at h
  split at h
  · rename_i hy
    obtain ⟨T, k⟩ := Ty _ hy C hC
    exact key true T k (h.ret rs (by simp only [rD, RD]))
  · split at h
    · rename_i hy
      obtain ⟨T, k⟩ := Tn _ hy C hC
      exact key false T k (h.ret rs (by simp only [rD, RD]))
    · exact h.elim
end
end DL

/-! the D-layer: *xs in a display, a, b, c = x, y, z, defaults -/
namespace DL
open PySem L2
def aStar (m : EM) (r : AM) : AM := fun ρ S => (m ρ S).bind fun x S1 => match itemsD x S1 with
  | some ys => (r ρ S1).bind fun zs S2 => .ok (ys ++ zs) S2
  | none => .stk
section
variable {X : Cx} {W : WX} {e : Expr} {es : List Expr} {m : EM} {ms : AM} {p : Pos}
theorem sa_star (he : SE X W e m) (hr : SA X W es ms) (hs : starEach (.Starred e p :: es) X.env = (true, eval e X.env) :: starEach es X.env := by rfl) : SA X W (.Starred e p :: es) (aStar m ms) := by
  refine PA.imp (StX.pa_star he hr hs) fun σ H Q h => ?_
  obtain ⟨ι, ρ, S, re, rs, h⟩ := h
  refine ⟨ι, ρ, S, re, rs, PR.imp (fun v H1 hh => ?_) (PR.bind (rel := rD X.K) h)⟩
  obtain ⟨ι1, d, S1, x1, rs1, r1, h1⟩ := hh
  cases ei : itemsD d S1 with
  | none => simp only [ei] at h1; exact h1.elim
  | some ys =>
    simp only [ei] at h1
    obtain ⟨q, vs, rfl, sq, rr⟩ := items_rd rs1 ei r1
    refine ⟨q, vs, rfl, sq.symm, ι1, ρ, S1, re.mono x1, rs1, PR.imp (fun u H2 hh => ?_) (PR.bind (rel := rDs X.K) h1)⟩
    obtain ⟨ι2, d2, S2, x2, rs2, r2, h2⟩ := hh
    exact h2.ret rs2 ((RDs.mono x2 rr).append r2)
/-- a, b, c = x, y, z, both sides written -/
def sPar3 (i j l : Nat) (ms : AM) : SM := fun ρ S => (ms ρ S).bindS ρ fun ds S1 => match ds with
  | [d, d', d''] => .nx (((ρ.set i (some d)).set j (some d')).set l (some d'')) S1
  | _ => .stk
theorem ss_par3 (i j l : Nat) {x y z : Str} {a b c : Expr} {px py pz pt pos : Pos} {kt k2 : Nat} {pt2 : Pos} (hc : X.calm = true) (hN : X.N.Nodup) (ha : SA X W [a, b, c] ms) (hi : X.N[i]? = some x := by rfl) (hj : X.N[j]? = some y := by rfl) (hl : X.N[l]? = some z := by rfl) (hij : i ≠ j := by decide) (hil : i ≠ l := by decide) (hjl : j ≠ l := by decide)
    (hx : X.env.scope.names.lookup x = some .local := by rfl) (hy : X.env.scope.names.lookup y = some .local := by rfl) (hz : X.env.scope.names.lookup z = some .local := by rfl)
    (hw : swappedStores [.Tuple [.Name x px, .Name y py, .Name z pz] kt pt] (.Tuple [a, b, c] k2 pt2) X.env = pure (some [x, y, z]) := by rfl)
    (hs : swapsWithSole [.Tuple [.Name x px, .Name y py, .Name z pz] kt pt] (.Tuple [a, b, c] k2 pt2) pos.line X.env = pure false := by rfl) :
    SS X W (.Assign [.Tuple [.Name x px, .Name y py, .Name z pz] kt pt] (.Tuple [a, b, c] k2 pt2) pos) (sPar3 i j l ms) := by
  refine PS.imp (ps_par3 hc hN hi hj hl hij hil hjl hx hy hz ha hw hs) fun D σ H h => ?_
  obtain ⟨ι, ρ, S, re, rs, h⟩ := h
  refine ⟨ι, ρ, S, re, rs, PR.imp (fun v H1 hh => ?_) (PR.bindS (rel := rDs X.K) re h)⟩
  obtain ⟨ι1, d, S1, x1, rs1, r1, h1⟩ := hh
  split at h1
  · simp only [RDs] at r1
    obtain ⟨v1, _, rfl, ra, v2, _, rfl, rb, v3, _, rfl, rc, rfl⟩ := r1
    exact ⟨v1, v2, v3, rfl, h1.next rs1 ((((re.mono x1).put ra).put rb).put rc)⟩
  · exact h1.elim
end
/-! ### defaults: the last parameters, where a call leaves them out -/
/-- what K holds of a def's defaults: values of plain data, ds -/
structure Dfl (K : PySem.W.Frag) (fd : FuncData) (ps : List Str) (ds : List D) : Prop where
  ex : ∃ (us : List Value) (vs : List V), Binds K fd ps us ∧ L2.Vals vs us ∧ ∀ ι H, RDs K ι H ds vs
def mCallD (n : Nat) (F : FM) (dfl : List D) (ms : AM) : EM := fun ρ S => (ms ρ S).bind fun xs S1 => if (xs ++ dfl).length = n then F (xs ++ dfl) S1 else .stk
section
variable {X : Cx} {W : WX} {k : Nat} {x : Str} {st : Stmt} {ps : List Str} {F : FM} {p pos : Pos} {e : Expr} {es : List Expr} {ms : AM} {dfl : List D}
theorem vals_app {vs zs : List V} {us ws : List Value} (a : L2.Vals vs us) (b : L2.Vals zs ws) : L2.Vals (vs ++ zs) (us ++ ws) := by
  induction a with
  | nil => exact b
  | cons h t ih => exact .cons h ih
/-- f(e, ..), the defaults behind -/
theorem se_callD (C : Cal X.prog X.w X.K X.mg X.base k x st ps F) (hr : GR k X.A) (tk : Takes X W) (hd : ∀ f fd, X.mg x = some (.ref f) → Fun X.K x x st f fd → Dfl X.K fd ps dfl)
    (ha : SA X W (e :: es) ms) (hg : Gl X x := by rfl) (hdb : (x == ("__debug__" : Str)) = false := by decide)
    (he : starEach (e :: es) X.env = (false, eval e X.env) :: starEach es X.env := by rfl) (hpl : (backTo pos (starEach es X.env)).any (·.1) = false := by rfl) :
    SE X W (.Call (.Name x p) (e :: es) [] pos) (mCallD ps.length F dfl ms) := by
  obtain ⟨f, fd, Fn, hm, Fu⟩ := C.ex
  obtain ⟨dus, dvs, bd, rv, rd⟩ := (hd f fd hm Fu).ex
  refine ⟨fun pins s σ H Q I h => ?_⟩
  obtain ⟨ι, ρ, S, re, rs, h⟩ := h
  refine wpAny_Call_Name_kw (ld_glob I hg hm ?_ hdb)
  have h' : tMA X.K W ms σ H (fun vs H1 => spG X.K ps.length F (vs ++ dvs) H1 Q (WE W σ)) := ⟨ι, ρ, S, re, rs, by
    unfold mCallD at h
    refine PR.imp (fun vs H1 hh => ?_) (PR.bind (rel := rDs X.K) h)
    obtain ⟨ι1, ds, S1, x1, rs1, r1, h1⟩ := hh
    split at h1
    · exact ⟨ι1, S1, ds ++ dfl, rs1, r1.append (rd ι1 H1), by assumption, h1.at⟩
    · exact h1.elim⟩
  refine PySem.W.callWith_K (h₀ := X.base) I.ok.mod.kin Fu.kp (thn (ha.run pos pins s σ H _ I h') fun us s1 ⟨vs, H1, I1, r, q⟩ => ⟨I1.kIn, ?_⟩) he hpl
  have rr := vals_app r rv
  have hl : (us ++ dus).length = ps.length := by rw [← rr.length]; exact q.len
  exact run_g (given := ⟨us, []⟩) Fn hr tk (bd s1 us I1.kIn hl) I1 rr q
/-- keyword-only defaults that are plain -/
theorem dfl_kw {K : PySem.W.Frag} {st : Stmt} {f : Addr} {fd : FuncData} {kws : List (Str × V)} {dfl : List D} (F : FunD K x x (defArgs st) (defBody st) (defScope st) [] kws f fd) (n : Nat) (hk : kws ≠ []) (hn : n + kws.length = ps.length)
    (h : ∀ (D : Addr) (doc pm : Value) (an : Option Addr) (cdv ct : Value) (us ks : List Value), us.length = n → ks.length = kws.length →
      KwChain D ((kws.map (·.1)).zip ks) (bindArgs (PySem.W.fnOf x x (defArgs st) (defBody st) (defScope st) .none (.ref D) doc pm an cdv ct) ⟨us, []⟩) (ps.zip (us ++ ks)))
    (rd : ∀ ι H, RDs K ι H dfl (kws.map (·.2))) : Dfl K fd ps dfl := by
  obtain ⟨us, rv, bd⟩ := F.binds0 n hk hn h
  exact ⟨us, _, bd, rv, rd⟩
end
end DL

/-! the V-layer: values as trees (no store in sight), their relation to data in a store -/
namespace DL
open PySem L2

/-- a value: lists, dicts and instances as trees; hand: the draws' own object -/
inductive Vl where
  | non | bl (b : Bool) | int (i : Int) | str (x : Str) | tup (xs : List Vl) | lst (xs : List Vl) | dct (kvs : List (Vl × Vl)) | ins (C : Addr) (fs : List (Str × Vl)) | raw (v : V) | hand | scr (ns : List Int)
/-- an error: its class, its fields -/
structure VX where
  C : Str
  fs : List (Str × Vl)
/-- a slot: sh: anybody may know the value; ow: a list, dict or instance that this slot alone knows -/
inductive VS where
  | sh (v : Vl) | ow (v : Vl)
abbrev VEnv := List (Option VS)
def kOf : Vl → Option Key
  | .int i => some (.inl i)
  | .str x => some (.inr x)
  | _ => none

section
variable (h : Nat) (A : List Nat) (S : Sto)
mutual
def RV : Vl → D → Prop
  | .non, d => d = .non
  | .bl b, d => d = .bl b
  | .int i, d => d = .int i
  | .str x, d => d = .str x
  | .raw v, d => d = .raw v
  | .hand, d => d = .ref h
  | .scr ns, d => ∃ n, d = .ref n ∧ n ∉ A ∧ S[n]? = some (.fz (ns.map .int))
  | .tup vs, d => ∃ ds, d = .tup ds ∧ RVs vs ds
  | .lst vs, d => ∃ n ds, d = .ref n ∧ n ∉ A ∧ S[n]? = some (.lst ds) ∧ RVs vs ds
  | .dct kvs, d => ∃ n ds, d = .ref n ∧ n ∉ A ∧ S[n]? = some (.dct ds) ∧ RVk kvs ds
  | .ins C fs, d => ∃ n ds, d = .ref n ∧ n ∉ A ∧ S[n]? = some (.ins C ds) ∧ RVf fs ds
def RVs : List Vl → List D → Prop
  | [], ds => ds = []
  | v :: vs, ds => ∃ d r, ds = d :: r ∧ RV v d ∧ RVs vs r
def RVk : List (Vl × Vl) → List (Key × D) → Prop
  | [], ds => ds = []
  | (k, v) :: vs, ds => ∃ kk d r, ds = (kk, d) :: r ∧ kOf k = some kk ∧ RV v d ∧ RVk vs r
def RVf : List (Str × Vl) → List (Str × D) → Prop
  | [], ds => ds = []
  | (x, v) :: vs, ds => ∃ d r, ds = (x, d) :: r ∧ RV v d ∧ RVf vs r
end
/-- what a cell that is left out holds -/
def RO : Vl → Nat → Prop
  | .lst vs, n => ∃ ds, S[n]? = some (.lst ds) ∧ RVs h A S vs ds
  | .dct kvs, n => ∃ ds, S[n]? = some (.dct ds) ∧ RVk h A S kvs ds
  | .ins C fs, n => ∃ ds, S[n]? = some (.ins C ds) ∧ RVf h A S fs ds
  | _, _ => False
end
def isC : Vl → Bool
  | .lst _ => true
  | .dct _ => true
  | .ins _ _ => true
  | _ => false
section
variable {h c : Nat} {A B : List Nat} {S S' : Sto}
/-- all cells that are not left out stand there, too, and are not left out there -/
abbrev Mv (A : List Nat) (S : Sto) (B : List Nat) (S' : Sto) : Prop := ∀ n x, n ∉ A → S[n]? = some x → n ∉ B ∧ S'[n]? = some x
theorem seq_mv (m : Mv A S B S') {n : Nat} {ds : List D} (hn : n ∉ A) (e : seqAt S n = some ds) : n ∉ B ∧ seqAt S' n = some ds := by
  unfold seqAt at e ⊢
  split at e
  · rename_i xs ex; obtain ⟨a, b⟩ := m n _ hn ex; exact ⟨a, by rw [b]; exact e⟩
  · rename_i xs ex; obtain ⟨a, b⟩ := m n _ hn ex; exact ⟨a, by rw [b]; exact e⟩
  · cases e
mutual
theorem RV.mv (m : Mv A S B S') : ∀ {v : Vl} {d : D}, RV h A S v d → RV h B S' v d
  | .non, d, r => by simpa only [RV] using r
  | .bl b, d, r => by simpa only [RV] using r
  | .int b, d, r => by simpa only [RV] using r
  | .str b, d, r => by simpa only [RV] using r
  | .raw b, d, r => by simpa only [RV] using r
  | .hand, d, r => by simpa only [RV] using r
  | .scr ns, d, r => by
    simp only [RV] at r ⊢
    obtain ⟨n, e, hn, hs⟩ := r
    obtain ⟨a, b⟩ := m n _ hn hs
    exact ⟨n, e, a, b⟩
  | .tup vs, d, r => by
    simp only [RV] at r ⊢
    obtain ⟨ds, e, r⟩ := r
    exact ⟨ds, e, RVs.mv m r⟩
  | .lst vs, d, r => by
    simp only [RV] at r ⊢
    obtain ⟨n, ds, e, hn, hs, r⟩ := r
    obtain ⟨a, b⟩ := m n _ hn hs
    exact ⟨n, ds, e, a, b, RVs.mv m r⟩
  | .dct vs, d, r => by
    simp only [RV] at r ⊢
    obtain ⟨n, ds, e, hn, hs, r⟩ := r
    obtain ⟨a, b⟩ := m n _ hn hs
    exact ⟨n, ds, e, a, b, RVk.mv m r⟩
  | .ins C vs, d, r => by
    simp only [RV] at r ⊢
    obtain ⟨n, ds, e, hn, hs, r⟩ := r
    obtain ⟨a, b⟩ := m n _ hn hs
    exact ⟨n, ds, e, a, b, RVf.mv m r⟩
theorem RVs.mv (m : Mv A S B S') : ∀ {vs : List Vl} {ds : List D}, RVs h A S vs ds → RVs h B S' vs ds
  | [], ds, r => by simpa only [RVs] using r
  | v :: vs, ds, r => by
    simp only [RVs] at r ⊢
    obtain ⟨d, q, e, a, b⟩ := r
    exact ⟨d, q, e, RV.mv m a, RVs.mv m b⟩
theorem RVk.mv (m : Mv A S B S') : ∀ {vs : List (Vl × Vl)} {ds : List (Key × D)}, RVk h A S vs ds → RVk h B S' vs ds
  | [], ds, r => by simpa only [RVk] using r
  | (k, v) :: vs, ds, r => by
    simp only [RVk] at r ⊢
    obtain ⟨kk, d, q, e, ek, a, b⟩ := r
    exact ⟨kk, d, q, e, ek, RV.mv m a, RVk.mv m b⟩
theorem RVf.mv (m : Mv A S B S') : ∀ {vs : List (Str × Vl)} {ds : List (Str × D)}, RVf h A S vs ds → RVf h B S' vs ds
  | [], ds, r => by simpa only [RVf] using r
  | (k, v) :: vs, ds, r => by
    simp only [RVf] at r ⊢
    obtain ⟨d, q, e, a, b⟩ := r
    exact ⟨d, q, e, RV.mv m a, RVf.mv m b⟩
end
theorem Mv.refl : Mv A S A S := fun n c hn e => ⟨hn, e⟩
theorem Mv.trans {C : List Nat} {S'' : Sto} (a : Mv A S B S') (b : Mv B S' C S'') : Mv A S C S'' := fun n c hn e => let ⟨x, y⟩ := a n c hn e; b n c x y
theorem Mv.stp (x : Stp A S S') : Mv A S A S' := fun n c hn e => ⟨hn, x.2 n c hn e⟩
theorem Mv.sub (hs : ∀ n, n ∈ B → n ∈ A) : Mv A S B S := fun n c hn e => ⟨fun z => hn (hs n z), e⟩
/-- what is new may be left out, too -/
theorem Mv.out (hs : ∀ n, n ∈ B → n ∈ A ∨ S.length ≤ n) (x : Stp A S S') : Mv A S B S' := fun n c hn q => ⟨fun z => by
  rcases hs n z with w | w
  · exact hn w
  · have := (List.getElem?_eq_some_iff.mp q).1; omega, x.2 n c hn q⟩
theorem RO.mv (m : Mv A S B S') {v : Vl} {n : Nat} (hn : ∀ x, S[n]? = some x → S'[n]? = some x) (r : RO h A S v n) : RO h B S' v n := by
  cases v with
  | lst vs => obtain ⟨ds, e, r⟩ := r; exact ⟨ds, hn _ e, RVs.mv m r⟩
  | dct vs => obtain ⟨ds, e, r⟩ := r; exact ⟨ds, hn _ e, RVk.mv m r⟩
  | ins C vs => obtain ⟨ds, e, r⟩ := r; exact ⟨ds, hn _ e, RVf.mv m r⟩
  | _ => exact r.elim
theorem RO.lt {v : Vl} {n : Nat} (r : RO h A S v n) : n < S.length := by
  cases v with
  | lst vs => obtain ⟨ds, e, r⟩ := r; exact (List.getElem?_eq_some_iff.mp e).1
  | dct vs => obtain ⟨ds, e, r⟩ := r; exact (List.getElem?_eq_some_iff.mp e).1
  | ins C vs => obtain ⟨ds, e, r⟩ := r; exact (List.getElem?_eq_some_iff.mp e).1
  | _ => exact r.elim
/-- a cell that is let go -/
theorem RO.free {v : Vl} {n : Nat} (r : RO h A S v n) (hs : ∀ m, m ∈ B → m ∈ A) (hn : n ∉ B) : RV h B S v (.ref n) := by
  cases v with
  | lst vs =>
    obtain ⟨ds, e, r⟩ := r
    simp only [RV]
    exact ⟨n, ds, rfl, hn, e, RVs.mv (Mv.sub hs) r⟩
  | dct vs => obtain ⟨ds, e, r⟩ := r; simp only [RV]; exact ⟨n, ds, rfl, hn, e, RVk.mv (Mv.sub hs) r⟩
  | ins C vs => obtain ⟨ds, e, r⟩ := r; simp only [RV]; exact ⟨n, ds, rfl, hn, e, RVf.mv (Mv.sub hs) r⟩
  | _ => exact r.elim
/-! lists -/
theorem RVs.len : ∀ {vs : List Vl} {ds : List D}, RVs h A S vs ds → ds.length = vs.length
  | [], ds, r => by simp only [RVs] at r; subst r; rfl
  | v :: vs, ds, r => by
    simp only [RVs] at r
    obtain ⟨d, q, rfl, a, b⟩ := r
    rw [List.length_cons, List.length_cons, RVs.len b]
theorem RVs.nil : RVs h A S [] [] := by simp only [RVs]
theorem RVs.cons {v : Vl} {vs : List Vl} {d : D} {ds : List D} (a : RV h A S v d) (b : RVs h A S vs ds) : RVs h A S (v :: vs) (d :: ds) := by
  simp only [RVs]; exact ⟨d, ds, rfl, a, b⟩
theorem RVs.app : ∀ {vs us : List Vl} {ds es : List D}, RVs h A S vs ds → RVs h A S us es → RVs h A S (vs ++ us) (ds ++ es)
  | [], us, ds, es, a, b => by simp only [RVs] at a; subst a; exact b
  | v :: vs, us, ds, es, a, b => by
    simp only [RVs] at a
    obtain ⟨d, q, rfl, a1, a2⟩ := a
    exact .cons a1 (RVs.app a2 b)
theorem RVs.take : ∀ (n : Nat) {vs : List Vl} {ds : List D}, RVs h A S vs ds → RVs h A S (vs.take n) (ds.take n)
  | 0, _, _, _ => by simp only [List.take_zero]; exact .nil
  | n + 1, [], ds, r => by simp only [RVs] at r; subst r; simp only [List.take_nil]; exact .nil
  | n + 1, v :: vs, ds, r => by
    simp only [RVs] at r
    obtain ⟨d, q, rfl, a, b⟩ := r
    exact .cons a (RVs.take n b)
theorem RVs.drop : ∀ (n : Nat) {vs : List Vl} {ds : List D}, RVs h A S vs ds → RVs h A S (vs.drop n) (ds.drop n)
  | 0, _, _, r => r
  | n + 1, [], ds, r => by simp only [RVs] at r; subst r; simp only [List.drop_nil]; exact .nil
  | n + 1, v :: vs, ds, r => by
    simp only [RVs] at r
    obtain ⟨d, q, rfl, a, b⟩ := r
    exact RVs.drop n b
theorem RVs.rev : ∀ {vs : List Vl} {ds : List D}, RVs h A S vs ds → RVs h A S vs.reverse ds.reverse
  | [], ds, r => by simp only [RVs] at r; subst r; exact .nil
  | v :: vs, ds, r => by
    simp only [RVs] at r
    obtain ⟨d, q, rfl, a, b⟩ := r
    rw [List.reverse_cons, List.reverse_cons]
    exact (RVs.rev b).app (.cons a .nil)
theorem RVs.rep {vs : List Vl} {ds : List D} (r : RVs h A S vs ds) : ∀ k : Nat, RVs h A S (List.replicate k vs).flatten (List.replicate k ds).flatten
  | 0 => .nil
  | k + 1 => by
    rw [List.replicate_succ, List.replicate_succ, List.flatten_cons, List.flatten_cons]
    exact r.app (RVs.rep r k)
theorem RVs.get : ∀ {vs : List Vl} {ds : List D} {i : Nat} {v : Vl}, RVs h A S vs ds → vs[i]? = some v → ∃ d, ds[i]? = some d ∧ RV h A S v d
  | [], _, _, _, _, e => by simp at e
  | v :: vs, ds, 0, v', r, e => by
    simp only [RVs] at r
    obtain ⟨d, q, rfl, a, b⟩ := r
    simp at e; subst e
    exact ⟨d, rfl, a⟩
  | v :: vs, ds, i + 1, v', r, e => by
    simp only [RVs] at r
    obtain ⟨d, q, rfl, a, b⟩ := r
    simp at e
    obtain ⟨u, x, y⟩ := RVs.get b e
    exact ⟨u, by simpa using x, y⟩
theorem RVs.getD : ∀ {vs : List Vl} {ds : List D} {i : Nat} {d : D}, RVs h A S vs ds → ds[i]? = some d → ∃ v, vs[i]? = some v ∧ RV h A S v d := fun {vs ds i d} r e => by
  have hi : i < vs.length := by rw [← r.len]; exact (List.getElem?_eq_some_iff.mp e).1
  obtain ⟨d', a, b⟩ := r.get (List.getElem?_eq_getElem hi)
  rw [e] at a; cases a
  exact ⟨_, List.getElem?_eq_getElem hi, b⟩
theorem RVs.set : ∀ (i : Nat) {vs : List Vl} {ds : List D} {v : Vl} {d : D}, RVs h A S vs ds → RV h A S v d → RVs h A S (vs.set i v) (ds.set i d)
  | _, [], ds, v, d, r, q => by simp only [RVs] at r; subst r; exact .nil
  | 0, v0 :: vs, ds, v, d, r, q => by
    simp only [RVs] at r
    obtain ⟨d0, r', rfl, a, b⟩ := r
    exact .cons q b
  | i + 1, v0 :: vs, ds, v, d, r, q => by
    simp only [RVs] at r
    obtain ⟨d0, r', rfl, a, b⟩ := r
    exact .cons a (RVs.set i b q)
theorem RVs.isEmpty {vs : List Vl} {ds : List D} (r : RVs h A S vs ds) : ds.isEmpty = vs.isEmpty := emp_len r.len
theorem RVs.dropLast {vs : List Vl} {ds : List D} (r : RVs h A S vs ds) : RVs h A S vs.dropLast ds.dropLast := by
  rw [List.dropLast_eq_take, List.dropLast_eq_take, r.len]; exact r.take _
theorem RVs.ints : ∀ ns : List Int, RVs h A S (ns.map .int) (ns.map .int)
  | [] => .nil
  | n :: ns => .cons (by simp only [RV]) (RVs.ints ns)
theorem RVs.strs : ∀ ns : List Str, RVs h A S (ns.map .str) (ns.map .str)
  | [] => .nil
  | n :: ns => .cons (by simp only [RV]) (RVs.strs ns)
end

/-! ### the state of a def's body -/
structure VI (h c : Nat) (S0 : Sto) (A0 A : List Nat) (ρ : Ev) (S : Sto) (env : VEnv) : Prop where
  h0 : Hand h c S0
  adv : Adv h c S0 S
  hA : h ∈ A0
  cA : c ∈ A0
  lt0 : ∀ n ∈ A0, n < S0.length
  sub : ∀ n ∈ A0, n ∈ A
  lt : ∀ n ∈ A, n < S.length
  new : ∀ n ∈ A, n ∈ A0 ∨ S0.length ≤ n
  len : ρ.length = env.length
  sh : ∀ (i : Nat) (v : Vl), env[i]? = some (some (VS.sh v)) → ∃ d, ρ[i]? = some (some d) ∧ RV h A S v d
  ow : ∀ (i : Nat) (v : Vl), env[i]? = some (some (VS.ow v)) → ∃ n, ρ[i]? = some (some (D.ref n)) ∧ n ∈ A ∧ S0.length ≤ n ∧ RO h A S v n
  inj : ∀ (i j : Nat) (u v : Vl) (n : Nat), env[i]? = some (some (VS.ow u)) → env[j]? = some (some (VS.ow v)) → ρ[i]? = some (some (D.ref n)) → ρ[j]? = some (some (D.ref n)) → i = j
section
variable {h c : Nat} {A0 A B : List Nat} {S0 S S' : Sto} {ρ : Ev} {env : VEnv}
theorem VI.hand (I : VI h c S0 A0 A ρ S env) : Hand h c S := I.adv.1
theorem VI.stpA (I : VI h c S0 A0 A ρ S env) (x : Stp [h, c] S S') : Stp A S S' := x.weak fun n hn => by
  rcases List.mem_cons.mp hn with rfl | hn
  · exact I.sub _ I.hA
  · rw [List.mem_singleton.mp hn]; exact I.sub _ I.cA
theorem VI.ne (I : VI h c S0 A0 A ρ S env) {n : Nat} (hn : S0.length ≤ n) : n ∉ [h, c] := by
  have := I.h0.lt
  simp only [List.mem_cons, List.not_mem_nil, or_false, not_or]
  omega
/-- an expression has been evaluated -/
theorem VI.go (I : VI h c S0 A0 A ρ S env) (a : Adv h c S S') : VI h c S0 A0 A ρ S' env where
  h0 := I.h0
  adv := I.adv.trans a
  hA := I.hA
  cA := I.cA
  lt0 := I.lt0
  sub := I.sub
  lt := fun n hn => Nat.lt_of_lt_of_le (I.lt n hn) a.2.1
  new := I.new
  len := I.len
  sh := fun i v e => let ⟨d, x, r⟩ := I.sh i v e; ⟨d, x, RV.mv (Mv.stp (I.stpA a.2)) r⟩
  ow := fun i v e => by
    obtain ⟨n, x, y, z, r⟩ := I.ow i v e
    exact ⟨n, x, y, z, RO.mv (Mv.stp (I.stpA a.2)) (fun c e => a.2.at_ (I.ne z) e) r⟩
  inj := I.inj
end
end DL

/-! the V-layer: expressions -/
namespace DL
open PySem L2
abbrev VM := VEnv → (Vl → Prop) → (VX → Prop) → Prop
abbrev VTM := VEnv → (Bool → Prop) → (VX → Prop) → Prop
abbrev VAM := VEnv → (List Vl → Prop) → (VX → Prop) → Prop
abbrev VF := List Vl → (Vl → Prop) → (VX → Prop) → Prop
def vO {α : Type} (o : Option α) (Q : α → Prop) : Prop := match o with
  | some r => Q r
  | none => False
@[simp] theorem vO_some {α : Type} (r : α) (Q : α → Prop) : vO (some r) Q = Q r := rfl
@[simp] theorem vO_none {α : Type} (Q : α → Prop) : vO none Q = False := rfl
theorem vO_elim {α : Type} {o : Option α} {Q : α → Prop} (h : vO o Q) : ∃ r, o = some r ∧ Q r := by
  cases o with
  | none => exact h.elim
  | some r => exact ⟨r, rfl, h⟩
section
variable {α β : Type} {r : R α} {P P' : α → Sto → Prop} {E E' : Exn → Sto → Prop}
theorem WX'.mono (x : WX' r P E) (p : ∀ a S, P a S → P' a S) (e : ∀ a S, E a S → E' a S) : WX' r P' E' := by
  cases r with
  | stk => exact x
  | ok a S => exact p _ _ x
  | ex a S => exact e _ _ x
theorem wx_bind {f : α → Sto → R β} {P : β → Sto → Prop} (x : WX' r (fun a S => WX' (f a S) P E) E) : WX' (r.bind f) P E := by
  cases r with
  | stk => exact x
  | ok a S => exact x
  | ex a S => exact x
theorem wx_ofO {o : Option (α × Sto)} {a : α} {S : Sto} (e : o = some (a, S)) (p : P a S) : WX' (ofO o) P E := by subst e; exact p
theorem wx_ok {a : α} {S : Sto} (p : P a S) : WX' (R.ok a S) P E := p
end
def RXx (h : Nat) (A : List Nat) (S : Sto) (x : VX) (e : Exn) : Prop := e.C = x.C ∧ RVf h A S x.fs e.fs
/-- flat, or nobody else knows it -/
def FV (h : Nat) (A : List Nat) (S S' : Sto) (v : Vl) (d : D) : Prop := (isC v = false ∧ RV h A S' v d) ∨ ∃ n, d = .ref n ∧ S.length ≤ n ∧ RO h (n :: A) S' v n
/-- looked at alone -/
def LK (h c : Nat) (A : List Nat) (S : Sto) (v : Vl) (d : D) : Prop := RV h A S v d ∨ ∃ n, d = .ref n ∧ n ∈ A ∧ n ∉ [h, c] ∧ RO h A S v n
def LKs (h c : Nat) (A : List Nat) (S : Sto) : List Vl → List D → Prop
  | [], ds => ds = []
  | v :: vs, ds => ∃ d r, ds = d :: r ∧ LK h c A S v d ∧ LKs h c A S vs r
section
variable {h c : Nat} {A A0 : List Nat} {S S0 S' S1 : Sto} {v : Vl} {d : D} {ρ : Ev} {env : VEnv}
theorem FV.rv (lt : ∀ n ∈ A, n < S.length) (r : FV h A S S' v d) : RV h A S' v d := by
  rcases r with ⟨_, r⟩ | ⟨n, rfl, hn, r⟩
  · exact r
  · exact r.free (fun m hm => List.mem_cons_of_mem _ hm) fun z => by have := lt n z; omega
theorem FV.flat (z : isC v = false) (r : RV h A S' v d) : FV h A S S' v d := .inl ⟨z, r⟩
theorem FV.from (hl : S.length ≤ S1.length) (r : FV h A S1 S' v d) : FV h A S S' v d := by
  rcases r with r | ⟨n, rfl, hn, r⟩
  · exact .inl r
  · exact .inr ⟨n, rfl, Nat.le_trans hl hn, r⟩
/-- what A holds back stays, the hand apart -/
structure Ctx (h c : Nat) (A : List Nat) (S : Sto) : Prop where
  hand : Hand h c S
  hA : h ∈ A
  cA : c ∈ A
  lt : ∀ n ∈ A, n < S.length
theorem VI.ctx (I : VI h c S0 A0 A ρ S env) : Ctx h c A S := ⟨I.hand, I.sub _ I.hA, I.sub _ I.cA, I.lt⟩
theorem Ctx.stp (C : Ctx h c A S) (x : Stp [h, c] S S') : Stp A S S' := x.weak fun n hn => by
  rcases List.mem_cons.mp hn with rfl | hn
  · exact C.hA
  · rw [List.mem_singleton.mp hn]; exact C.cA
theorem Ctx.go (C : Ctx h c A S) (a : Adv h c S S') : Ctx h c A S' := ⟨a.1, C.hA, C.cA, fun n hn => Nat.lt_of_lt_of_le (C.lt n hn) a.2.1⟩
theorem Ctx.rv (C : Ctx h c A S) (a : Adv h c S S') (r : RV h A S v d) : RV h A S' v d := RV.mv (Mv.stp (C.stp a.2)) r
theorem Ctx.rvs (C : Ctx h c A S) (a : Adv h c S S') {vs : List Vl} {ds : List D} (r : RVs h A S vs ds) : RVs h A S' vs ds := RVs.mv (Mv.stp (C.stp a.2)) r
theorem Ctx.fv {T : Sto} (C : Ctx h c A S) (a : Adv h c S S') (hTS : T.length ≤ S.length) (hn : ∀ n, T.length ≤ n → n ∉ [h, c]) (r : FV h A T S v d) : FV h A T S' v d := by
  rcases r with ⟨z, r⟩ | ⟨n, rfl, hl, r⟩
  · exact .inl ⟨z, C.rv a r⟩
  · refine .inr ⟨n, rfl, hl, RO.mv (Mv.stp ((C.stp a.2).weak fun m hm => List.mem_cons_of_mem _ hm)) (fun x e => a.2.at_ (hn n hl) e) r⟩
theorem Ctx.lk (C : Ctx h c A S) (a : Adv h c S S') (r : LK h c A S v d) : LK h c A S' v d := by
  rcases r with r | ⟨n, rfl, hn, ho, r⟩
  · exact .inl (C.rv a r)
  · exact .inr ⟨n, rfl, hn, ho, RO.mv (Mv.stp (C.stp a.2)) (fun x e => a.2.at_ ho e) r⟩
theorem LKs.go (C : Ctx h c A S) (a : Adv h c S S') : ∀ {vs : List Vl} {ds : List D}, LKs h c A S vs ds → LKs h c A S' vs ds
  | [], ds, r => by simpa only [LKs] using r
  | v :: vs, ds, r => by
    simp only [LKs] at r ⊢
    obtain ⟨d, q, e, a1, b⟩ := r
    exact ⟨d, q, e, C.lk a a1, LKs.go C a b⟩
theorem LKs.of : ∀ {vs : List Vl} {ds : List D}, RVs h A S vs ds → LKs h c A S vs ds
  | [], ds, r => by simpa only [RVs, LKs] using r
  | v :: vs, ds, r => by
    simp only [RVs] at r
    obtain ⟨d, q, e, a, b⟩ := r
    simp only [LKs]
    exact ⟨d, q, e, .inl a, LKs.of b⟩
theorem Ctx.fresh (C : Ctx h c A S) : ∀ n, S.length ≤ n → n ∉ [h, c] := fun n hn z => by
  have := C.hand.lt
  simp only [List.mem_cons, List.not_mem_nil, or_false] at z
  omega
theorem Ctx.push {x : Cell} (C : Ctx h c A S) : Adv h c S (S ++ [x]) := push_hand C.hand
end

/-! ### the judgements: m computes as F says -/
def JE (m : EM) (F : VM) : Prop := ∀ (h c : Nat) (S0 : Sto) (A0 A : List Nat) (ρ : Ev) (S : Sto) (env : VEnv) (Q : Vl → Prop) (E : VX → Prop), VI h c S0 A0 A ρ S env → F env Q E →
  WX' (m ρ S) (fun d S' => Adv h c S S' ∧ ∃ v, RV h A S' v d ∧ Q v) (fun e S' => Adv h c S S' ∧ ∃ x, RXx h A S' x e ∧ E x)
def JF (m : EM) (F : VM) : Prop := ∀ (h c : Nat) (S0 : Sto) (A0 A : List Nat) (ρ : Ev) (S : Sto) (env : VEnv) (Q : Vl → Prop) (E : VX → Prop), VI h c S0 A0 A ρ S env → F env Q E →
  WX' (m ρ S) (fun d S' => Adv h c S S' ∧ ∃ v, FV h A S S' v d ∧ Q v) (fun e S' => Adv h c S S' ∧ ∃ x, RXx h A S' x e ∧ E x)
def JP (m : EM) (F : VM) : Prop := ∀ (h c : Nat) (S0 : Sto) (A0 A : List Nat) (ρ : Ev) (S : Sto) (env : VEnv) (Q : Vl → Prop) (E : VX → Prop), VI h c S0 A0 A ρ S env → F env Q E →
  WX' (m ρ S) (fun d S' => Adv h c S S' ∧ ∃ v, LK h c A S' v d ∧ Q v) (fun e S' => Adv h c S S' ∧ ∃ x, RXx h A S' x e ∧ E x)
def JT (m : TM) (F : VTM) : Prop := ∀ (h c : Nat) (S0 : Sto) (A0 A : List Nat) (ρ : Ev) (S : Sto) (env : VEnv) (Q : Bool → Prop) (E : VX → Prop), VI h c S0 A0 A ρ S env → F env Q E →
  WX' (m ρ S) (fun k S' => Adv h c S S' ∧ Q k) (fun e S' => Adv h c S S' ∧ ∃ x, RXx h A S' x e ∧ E x)
def JA (m : AM) (F : VAM) : Prop := ∀ (h c : Nat) (S0 : Sto) (A0 A : List Nat) (ρ : Ev) (S : Sto) (env : VEnv) (Q : List Vl → Prop) (E : VX → Prop), VI h c S0 A0 A ρ S env → F env Q E →
  WX' (m ρ S) (fun ds S' => Adv h c S S' ∧ ∃ vs, RVs h A S' vs ds ∧ Q vs) (fun e S' => Adv h c S S' ∧ ∃ x, RXx h A S' x e ∧ E x)
def JAp (m : AM) (F : VAM) : Prop := ∀ (h c : Nat) (S0 : Sto) (A0 A : List Nat) (ρ : Ev) (S : Sto) (env : VEnv) (Q : List Vl → Prop) (E : VX → Prop), VI h c S0 A0 A ρ S env → F env Q E →
  WX' (m ρ S) (fun ds S' => Adv h c S S' ∧ ∃ vs, LKs h c A S' vs ds ∧ Q vs) (fun e S' => Adv h c S S' ∧ ∃ x, RXx h A S' x e ∧ E x)
section
variable {m ma mb mc : EM} {F Fa Fb Fc : VM} {ms mk : AM} {Fs Fk : VAM} {t ta tb : TM} {Ft Fta Ftb : VTM}
theorem JF.e (j : JF m F) : JE m F := fun h c S0 A0 A ρ S env Q E I f => (j h c S0 A0 A ρ S env Q E I f).mono (fun d S' ⟨a, v, r, q⟩ => ⟨a, v, r.rv I.lt, q⟩) fun _ _ z => z
theorem JE.p (j : JE m F) : JP m F := fun h c S0 A0 A ρ S env Q E I f => (j h c S0 A0 A ρ S env Q E I f).mono (fun d S' ⟨a, v, r, q⟩ => ⟨a, v, .inl r, q⟩) fun _ _ z => z
theorem JF.p (j : JF m F) : JP m F := j.e.p
theorem JA.p (j : JA ms Fs) : JAp ms Fs := fun h c S0 A0 A ρ S env Q E I f => (j h c S0 A0 A ρ S env Q E I f).mono (fun d S' ⟨a, v, r, q⟩ => ⟨a, v, .of r, q⟩) fun _ _ z => z
/-! names, constants -/
def vVar (i : Nat) : VM := fun env Q E => match env[i]? with
  | some (some (.sh v)) => Q v
  | _ => False
def vPk (i : Nat) : VM := fun env Q E => match env[i]? with
  | some (some (.sh v)) => Q v
  | some (some (.ow v)) => Q v
  | _ => False
def vC (v : Vl) : VM := fun _ Q _ => Q v
theorem j_var (i : Nat) : JE (mVar i) (vVar i) := fun h c S0 A0 A ρ S env Q E I f => by
  unfold vVar at f
  split at f
  · rename_i v e
    obtain ⟨d, e1, r⟩ := I.sh i v e
    unfold mVar
    rw [e1]
    exact ⟨.refl I.hand, v, r, f⟩
  · exact f.elim
theorem p_var (i : Nat) : JP (mVar i) (vPk i) := fun h c S0 A0 A ρ S env Q E I f => by
  unfold vPk at f
  unfold mVar
  split at f
  · rename_i v e
    obtain ⟨d, e1, r⟩ := I.sh i v e
    rw [e1]
    exact ⟨.refl I.hand, v, .inl r, f⟩
  · rename_i v e
    obtain ⟨n, e1, hn, hl, r⟩ := I.ow i v e
    rw [e1]
    exact ⟨.refl I.hand, v, .inr ⟨n, rfl, hn, I.ne hl, r⟩, f⟩
  · exact f.elim
theorem f_c {d : D} {v : Vl} (z : isC v = false) (r : ∀ h A S, RV h A S v d) : JF (mC d) (vC v) := fun h c S0 A0 A ρ S env Q E I f => ⟨.refl I.hand, v, .inl ⟨z, r _ _ _⟩, f⟩
theorem f_int (i : Int) : JF (mC (.int i)) (vC (.int i)) := f_c rfl fun _ _ _ => by simp only [RV]
theorem f_bl (i : Bool) : JF (mC (.bl i)) (vC (.bl i)) := f_c rfl fun _ _ _ => by simp only [RV]
theorem f_str (i : Str) : JF (mC (.str i)) (vC (.str i)) := f_c rfl fun _ _ _ => by simp only [RV]
theorem f_non : JF (mC .non) (vC .non) := f_c rfl fun _ _ _ => by simp only [RV]
theorem f_raw (i : V) : JF (mC (.raw i)) (vC (.raw i)) := f_c rfl fun _ _ _ => by simp only [RV]
/-! operators -/
def OpF (f : DOp) (g : Vl → Vl → Option Vl) : Prop := ∀ (h c : Nat) (A : List Nat) (S : Sto) (x y : D) (v w r : Vl), Ctx h c A S → LK h c A S v x → LK h c A S w y → g v w = some r → ∃ d S', f x y S = some (d, S') ∧ Stp [] S S' ∧ FV h A S S' r d
def OpE (f : DOp) (g : Vl → Vl → Option Vl) : Prop := ∀ (h c : Nat) (A : List Nat) (S : Sto) (x y : D) (v w r : Vl), Ctx h c A S → LK h c A S v x → LK h c A S w y → g v w = some r → ∃ d S', f x y S = some (d, S') ∧ Stp [] S S' ∧ RV h A S' r d
def UnF (f : D → Sto → Option (D × Sto)) (g : Vl → Option Vl) : Prop := ∀ (h c : Nat) (A : List Nat) (S : Sto) (x : D) (v r : Vl), Ctx h c A S → LK h c A S v x → g v = some r → ∃ d S', f x S = some (d, S') ∧ Stp [] S S' ∧ FV h A S S' r d
def OpsF (f : DOps) (g : List Vl → Option Vl) : Prop := ∀ (h c : Nat) (A : List Nat) (S : Sto) (xs : List D) (vs : List Vl) (r : Vl), Ctx h c A S → LKs h c A S vs xs → g vs = some r → ∃ d S', f xs S = some (d, S') ∧ Stp [] S S' ∧ FV h A S S' r d
def vBin (g : Vl → Vl → Option Vl) (a b : VM) : VM := fun env Q E => a env (fun x => b env (fun y => vO (g x y) Q) E) E
def vUn (g : Vl → Option Vl) (a : VM) : VM := fun env Q E => a env (fun x => vO (g x) Q) E
theorem two_go {h c : Nat} {S0 : Sto} {A0 A : List Nat} {ρ : Ev} {S : Sto} {env : VEnv} {E : VX → Prop} {α : Type} {P : α → Sto → Prop} {k : D → D → Sto → R α} {K : Vl → Vl → Prop} (ja : JP ma Fa) (jb : JP mb Fb) (I : VI h c S0 A0 A ρ S env) (f : Fa env (fun x => Fb env (fun y => K x y) E) E)
    (go : ∀ x y S' v w, Adv h c S S' → LK h c A S' v x → LK h c A S' w y → K v w → WX' (k x y S') P (fun e S' => Adv h c S S' ∧ ∃ x, RXx h A S' x e ∧ E x)) :
    WX' ((ma ρ S).bind fun x S1 => (mb ρ S1).bind fun y S2 => k x y S2) P (fun e S' => Adv h c S S' ∧ ∃ x, RXx h A S' x e ∧ E x) := by
  refine wx_bind ((ja h c S0 A0 A ρ S env _ E I f).mono ?_ fun _ _ z => z)
  rintro x S1 ⟨a1, v, r1, f1⟩
  refine wx_bind ((jb h c S0 A0 A ρ S1 env _ E (I.go a1) f1).mono ?_ fun e S' ⟨a, z⟩ => ⟨a1.trans a, z⟩)
  rintro y S2 ⟨a2, w, r2, f2⟩
  exact go x y S2 v w (a1.trans a2) ((I.go a1).ctx.lk a2 r1) r2 f2
theorem f_bin {f : DOp} {g : Vl → Vl → Option Vl} (o : OpF f g) (ja : JP ma Fa) (jb : JP mb Fb) : JF (mBin f ma mb) (vBin g Fa Fb) := fun h c S0 A0 A ρ S env Q E I ff => by
  refine two_go ja jb I ff fun x y S2 v w a r1 r2 q => ?_
  obtain ⟨r, er, q⟩ := vO_elim q
  obtain ⟨d, S3, e, st, rr⟩ := o h c A S2 x y v w r (I.go a).ctx r1 r2 er
  exact wx_ofO e ⟨a.trans (a.1.stp st), r, rr.from a.2.1, q⟩
theorem j_bin {f : DOp} {g : Vl → Vl → Option Vl} (o : OpE f g) (ja : JP ma Fa) (jb : JP mb Fb) : JE (mBin f ma mb) (vBin g Fa Fb) := fun h c S0 A0 A ρ S env Q E I ff => by
  refine two_go ja jb I ff fun x y S2 v w a r1 r2 q => ?_
  obtain ⟨r, er, q⟩ := vO_elim q
  obtain ⟨d, S3, e, st, rr⟩ := o h c A S2 x y v w r (I.go a).ctx r1 r2 er
  exact wx_ofO e ⟨a.trans (a.1.stp st), r, rr, q⟩
theorem f_un {f : D → Sto → Option (D × Sto)} {g : Vl → Option Vl} (o : UnF f g) (ja : JP ma Fa) : JF (mUn f ma) (vUn g Fa) := fun h c S0 A0 A ρ S env Q E I ff => by
  refine wx_bind ((ja h c S0 A0 A ρ S env _ E I ff).mono ?_ fun _ _ z => z)
  rintro x S1 ⟨a1, v, r1, q⟩
  obtain ⟨r, er, q⟩ := vO_elim q
  obtain ⟨d, S3, e, st, rr⟩ := o h c A S1 x v r (I.go a1).ctx r1 er
  exact wx_ofO e ⟨a1.trans (a1.1.stp st), r, rr.from a1.2.1, q⟩
/-! argument lists, displays -/
def vNil : VAM := fun _ Q _ => Q []
def vCons (a : VM) (r : VAM) : VAM := fun env Q E => a env (fun x => r env (fun xs => Q (x :: xs)) E) E
theorem a_nil : JA aNil vNil := fun h c S0 A0 A ρ S env Q E I f => ⟨.refl I.hand, [], .nil, f⟩
theorem a_cons (ja : JE m F) (jr : JA ms Fs) : JA (aCons m ms) (vCons F Fs) := fun h c S0 A0 A ρ S env Q E I f => by
  refine wx_bind ((ja h c S0 A0 A ρ S env _ E I f).mono ?_ fun _ _ z => z)
  rintro x S1 ⟨a1, v, r1, f1⟩
  refine wx_bind ((jr h c S0 A0 A ρ S1 env _ E (I.go a1) f1).mono ?_ fun e S' ⟨a, z⟩ => ⟨a1.trans a, z⟩)
  rintro xs S2 ⟨a2, vs, r2, f2⟩
  exact ⟨a1.trans a2, v :: vs, .cons ((I.go a1).ctx.rv a2 r1) r2, f2⟩
theorem ap_nil : JAp aNil vNil := a_nil.p
theorem ap_cons (ja : JP m F) (jr : JAp ms Fs) : JAp (aCons m ms) (vCons F Fs) := fun h c S0 A0 A ρ S env Q E I f => by
  refine wx_bind ((ja h c S0 A0 A ρ S env _ E I f).mono ?_ fun _ _ z => z)
  rintro x S1 ⟨a1, v, r1, f1⟩
  refine wx_bind ((jr h c S0 A0 A ρ S1 env _ E (I.go a1) f1).mono ?_ fun e S' ⟨a, z⟩ => ⟨a1.trans a, z⟩)
  rintro xs S2 ⟨a2, vs, r2, f2⟩
  refine ⟨a1.trans a2, v :: vs, ?_, f2⟩
  simp only [LKs]
  exact ⟨x, xs, rfl, (I.go a1).ctx.lk a2 r1, r2⟩
def vTup (a : VAM) : VM := fun env Q E => a env (fun xs => xs.length ≤ sizeLine ∧ Q (.tup xs)) E
def vLst (a : VAM) : VM := fun env Q E => a env (fun xs => xs.length ≤ sizeLine ∧ Q (.lst xs)) E
theorem f_tup (ja : JA ms Fs) : JF (mTup ms) (vTup Fs) := fun h c S0 A0 A ρ S env Q E I f => by
  refine wx_bind ((ja h c S0 A0 A ρ S env _ E I f).mono ?_ fun _ _ z => z)
  rintro xs S1 ⟨a1, vs, r1, hz, q⟩
  rw [if_pos (by rw [r1.len]; exact hz)]
  exact ⟨a1, .tup vs, .inl ⟨rfl, by simp only [RV]; exact ⟨xs, rfl, r1⟩⟩, q⟩
theorem new_list {h c : Nat} {A : List Nat} {S : Sto} {vs : List Vl} {xs : List D} (C : Ctx h c A S) (r : RVs h A S vs xs) : FV h A S (S ++ [.lst xs]) (.lst vs) (.ref S.length) := by
  refine .inr ⟨S.length, rfl, Nat.le_refl _, xs, new_at _, RVs.mv (Mv.out (fun n hn => ?_) .push) r⟩
  rcases List.mem_cons.mp hn with rfl | hn
  · exact .inr (Nat.le_refl _)
  · exact .inl hn
theorem f_lst (ja : JA ms Fs) : JF (mLst ms) (vLst Fs) := fun h c S0 A0 A ρ S env Q E I f => by
  refine wx_bind ((ja h c S0 A0 A ρ S env _ E I f).mono ?_ fun _ _ z => z)
  rintro xs S1 ⟨a1, vs, r1, hz, q⟩
  rw [if_pos (by rw [r1.len]; exact hz)]
  exact ⟨a1.trans (push_hand a1.1), .lst vs, (new_list (I.go a1).ctx r1).from a1.2.1, q⟩
/-! built-ins -/
def vCB (g : List Vl → Option Vl) (a : VAM) : VM := fun env Q E => a env (fun xs => vO (g xs) Q) E
theorem f_CB {f : DOps} {g : List Vl → Option Vl} (o : OpsF f g) (ja : JAp ms Fs) : JF (mCB f ms) (vCB g Fs) := fun h c S0 A0 A ρ S env Q E I f => by
  refine wx_bind ((ja h c S0 A0 A ρ S env _ E I f).mono ?_ fun _ _ z => z)
  rintro xs S1 ⟨a1, vs, r1, q⟩
  obtain ⟨r, er, q⟩ := vO_elim q
  obtain ⟨d, S3, e, st, rr⟩ := o h c A S1 xs vs r (I.go a1).ctx r1 er
  exact wx_ofO e ⟨a1.trans (a1.1.stp st), r, rr.from a1.2.1, q⟩
/-! calls -/
def JFn (f : FM) (F : VF) : Prop := ∀ (h c : Nat) (A : List Nat) (S : Sto) (vs : List Vl) (ds : List D) (Q : Vl → Prop) (E : VX → Prop), Ctx h c A S → RVs h A S vs ds → F vs Q E →
  WX' (f ds S) (fun d S' => Adv h c S S' ∧ ∃ v, RV h A S' v d ∧ Q v) (fun e S' => Adv h c S S' ∧ ∃ x, RXx h A S' x e ∧ E x)
def JFf (f : FM) (F : VF) : Prop := ∀ (h c : Nat) (A : List Nat) (S : Sto) (vs : List Vl) (ds : List D) (Q : Vl → Prop) (E : VX → Prop), Ctx h c A S → RVs h A S vs ds → F vs Q E →
  WX' (f ds S) (fun d S' => Adv h c S S' ∧ ∃ v, FV h A S S' v d ∧ Q v) (fun e S' => Adv h c S S' ∧ ∃ x, RXx h A S' x e ∧ E x)
theorem JFf.e {f : FM} {F : VF} (j : JFf f F) : JFn f F := fun h c A S vs ds Q E C r q => (j h c A S vs ds Q E C r q).mono (fun d S' ⟨a, v, r, q⟩ => ⟨a, v, r.rv C.lt, q⟩) fun _ _ z => z
def vCall (n : Nat) (F : VF) (a : VAM) : VM := fun env Q E => a env (fun xs => xs.length = n ∧ F xs Q E) E
theorem j_call {n : Nat} {f : FM} {F : VF} (jf : JFn f F) (ja : JA ms Fs) : JE (mCall n f ms) (vCall n F Fs) := fun h c S0 A0 A ρ S env Q E I ff => by
  refine wx_bind ((ja h c S0 A0 A ρ S env _ E I ff).mono ?_ fun _ _ z => z)
  rintro xs S1 ⟨a1, vs, r1, hz, q⟩
  rw [if_pos (by rw [r1.len]; exact hz)]
  exact (jf h c A S1 vs xs Q E (I.go a1).ctx r1 q).mono (fun d S' ⟨a, z⟩ => ⟨a1.trans a, z⟩) fun e S' ⟨a, z⟩ => ⟨a1.trans a, z⟩
theorem f_call {n : Nat} {f : FM} {F : VF} (jf : JFf f F) (ja : JA ms Fs) : JF (mCall n f ms) (vCall n F Fs) := fun h c S0 A0 A ρ S env Q E I ff => by
  refine wx_bind ((ja h c S0 A0 A ρ S env _ E I ff).mono ?_ fun _ _ z => z)
  rintro xs S1 ⟨a1, vs, r1, hz, q⟩
  rw [if_pos (by rw [r1.len]; exact hz)]
  exact (jf h c A S1 vs xs Q E (I.go a1).ctx r1 q).mono (fun d S' ⟨a, v, r, q⟩ => ⟨a1.trans a, v, r.from a1.2.1, q⟩) fun e S' ⟨a, z⟩ => ⟨a1.trans a, z⟩
theorem RVs.pick {h : Nat} {A : List Nat} {S : Sto} {vs us : List Vl} {ds es : List D} (r : RVs h A S vs ds) (q : RVs h A S us es) : ∀ perm, RVs h A S (DL.pick perm vs us) (DL.pick perm ds es)
  | [] => .nil
  | (b, j) :: perm => by
    have ih := RVs.pick r q perm
    unfold DL.pick at ih ⊢
    rw [List.filterMap_cons, List.filterMap_cons]
    have one : ∀ {xs : List Vl} {zs : List D} (j : Nat), RVs h A S xs zs → (xs[j]? = none ∧ zs[j]? = none) ∨ ∃ d v, xs[j]? = some d ∧ zs[j]? = some v ∧ RV h A S d v := fun {xs zs} j t => by
      cases e : xs[j]? with
      | none => exact .inl ⟨rfl, List.getElem?_eq_none_iff.mpr (by rw [t.len]; exact List.getElem?_eq_none_iff.mp e)⟩
      | some d =>
        obtain ⟨v, a, b⟩ := t.get e
        exact .inr ⟨d, v, rfl, a, b⟩
    cases b with
    | true =>
      rcases one j q with ⟨e1, e2⟩ | ⟨d, v, e1, e2, e3⟩
      · simp only [e1, e2]; exact ih
      · simp only [e1, e2]; exact .cons e3 ih
    | false =>
      rcases one j r with ⟨e1, e2⟩ | ⟨d, v, e1, e2, e3⟩
      · simp only [e1, e2]; exact ih
      · simp only [e1, e2]; exact .cons e3 ih
def vCallK (n : Nat) (F : VF) (perm : List (Bool × Nat)) (a b : VAM) : VM := fun env Q E => a env (fun xs => b env (fun ys => (pick perm xs ys).length = n ∧ F (pick perm xs ys) Q E) E) E
theorem callK_go {n : Nat} {f : FM} {perm : List (Bool × Nat)} {K : List Vl → Prop} {P : D → Sto → Prop} {h c : Nat} {S0 : Sto} {A0 A : List Nat} {ρ : Ev} {S : Sto} {env : VEnv} {E : VX → Prop} (ja : JA ms Fs) (jk : JA mk Fk) (I : VI h c S0 A0 A ρ S env)
    (ff : Fs env (fun xs => Fk env (fun ys => (DL.pick perm xs ys).length = n ∧ K (DL.pick perm xs ys)) E) E)
    (go : ∀ zs S' vs, Adv h c S S' → RVs h A S' vs zs → K vs → WX' (f zs S') P (fun e S' => Adv h c S S' ∧ ∃ x, RXx h A S' x e ∧ E x)) :
    WX' (mCallK n f perm ms mk ρ S) P (fun e S' => Adv h c S S' ∧ ∃ x, RXx h A S' x e ∧ E x) := by
  refine wx_bind ((ja h c S0 A0 A ρ S env _ E I ff).mono ?_ fun _ _ z => z)
  rintro xs S1 ⟨a1, vs, r1, f1⟩
  refine wx_bind ((jk h c S0 A0 A ρ S1 env _ E (I.go a1) f1).mono ?_ fun e S' ⟨a, z⟩ => ⟨a1.trans a, z⟩)
  rintro ys S2 ⟨a2, us, r2, hz, q⟩
  have rp := ((I.go a1).ctx.rvs a2 r1).pick r2 perm
  rw [if_pos (by rw [rp.len]; exact hz)]
  exact go _ _ _ (a1.trans a2) rp q
theorem j_callK {n : Nat} {f : FM} {F : VF} {perm : List (Bool × Nat)} (jf : JFn f F) (ja : JA ms Fs) (jk : JA mk Fk) : JE (mCallK n f perm ms mk) (vCallK n F perm Fs Fk) := fun h c S0 A0 A ρ S env Q E I ff =>
  callK_go (K := fun zs => F zs Q E) ja jk I ff fun zs S' vs a r q => (jf h c A S' vs zs Q E (I.go a).ctx r q).mono (fun d S'' ⟨b, z⟩ => ⟨a.trans b, z⟩) fun e S'' ⟨b, z⟩ => ⟨a.trans b, z⟩
theorem f_callK {n : Nat} {f : FM} {F : VF} {perm : List (Bool × Nat)} (jf : JFf f F) (ja : JA ms Fs) (jk : JA mk Fk) : JF (mCallK n f perm ms mk) (vCallK n F perm Fs Fk) := fun h c S0 A0 A ρ S env Q E I ff =>
  callK_go (K := fun zs => F zs Q E) ja jk I ff fun zs S' vs a r q => (jf h c A S' vs zs Q E (I.go a).ctx r q).mono (fun d S'' ⟨b, v, r, q⟩ => ⟨a.trans b, v, r.from a.2.1, q⟩) fun e S'' ⟨b, z⟩ => ⟨a.trans b, z⟩
end
end DL

/-! the V-layer: tests, statements, loops -/
namespace DL
open PySem L2
def truV : Vl → Option Bool
  | .non => some false
  | .bl b => some b
  | .int i => some (i != 0)
  | .str x => if x.length ≤ sizeLine then some ((x.length : Int) != 0) else none
  | .tup xs => some (!xs.isEmpty)
  | .lst xs => some (!xs.isEmpty)
  | .dct xs => some (!xs.isEmpty)
  | _ => none
section
variable {h c : Nat} {A A0 B : List Nat} {S S0 S' S1 : Sto} {v w : Vl} {d : D} {ρ : Ev} {env : VEnv}
theorem RVk.len : ∀ {vs : List (Vl × Vl)} {ds : List (Key × D)}, RVk h A S vs ds → ds.length = vs.length
  | [], ds, r => by simp only [RVk] at r; subst r; rfl
  | (k, v) :: vs, ds, r => by
    simp only [RVk] at r
    obtain ⟨kk, d, q, rfl, ek, a, b⟩ := r
    rw [List.length_cons, List.length_cons, RVk.len b]
theorem Ctx.out (C : Ctx h c A S) {n : Nat} (hn : n ∉ A) : n ∉ [h, c] := fun z => by
  rcases List.mem_cons.mp z with rfl | z
  · exact hn C.hA
  · rw [List.mem_singleton.mp z] at hn; exact hn C.cA
/-- a list, a dict, an instance that is looked at -/
theorem LK.lst {xs : List Vl} (r : LK h c A S (.lst xs) d) : ∃ n ds, d = .ref n ∧ S[n]? = some (.lst ds) ∧ RVs h A S xs ds := by
  rcases r with r | ⟨n, rfl, hn, ho, ds, e, r⟩
  · simp only [RV] at r
    obtain ⟨n, ds, rfl, hn, e, r⟩ := r
    exact ⟨n, ds, rfl, e, r⟩
  · exact ⟨n, ds, rfl, e, r⟩
theorem LK.dct {xs : List (Vl × Vl)} (r : LK h c A S (.dct xs) d) : ∃ n ds, d = .ref n ∧ S[n]? = some (.dct ds) ∧ RVk h A S xs ds := by
  rcases r with r | ⟨n, rfl, hn, ho, ds, e, r⟩
  · simp only [RV] at r
    obtain ⟨n, ds, rfl, hn, e, r⟩ := r
    exact ⟨n, ds, rfl, e, r⟩
  · exact ⟨n, ds, rfl, e, r⟩
theorem LK.ins {C : Addr} {xs : List (Str × Vl)} (r : LK h c A S (.ins C xs) d) : ∃ n ds, d = .ref n ∧ S[n]? = some (.ins C ds) ∧ RVf h A S xs ds := by
  rcases r with r | ⟨n, rfl, hn, ho, ds, e, r⟩
  · simp only [RV] at r
    obtain ⟨n, ds, rfl, hn, e, r⟩ := r
    exact ⟨n, ds, rfl, e, r⟩
  · exact ⟨n, ds, rfl, e, r⟩
theorem LK.flat (r : LK h c A S v d) (z : isC v = false) : RV h A S v d := by
  rcases r with r | ⟨n, rfl, hn, ho, r⟩
  · exact r
  · cases v <;> first | exact r.elim | cases z
theorem truV_ok {k : Bool} (r : LK h c A S v d) (e : truV v = some k) : dTru d S = some k := by
  cases v with
  | non => have q := r.flat rfl; simp only [RV] at q; subst q; exact e
  | bl b => have q := r.flat rfl; simp only [RV] at q; subst q; exact e
  | int b => have q := r.flat rfl; simp only [RV] at q; subst q; exact e
  | str b => have q := r.flat rfl; simp only [RV] at q; subst q; exact e
  | tup xs =>
    have q := r.flat rfl
    simp only [RV] at q
    obtain ⟨ds, rfl, q⟩ := q
    simp only [truV] at e
    simp only [dTru, q.isEmpty]; exact e
  | lst xs =>
    obtain ⟨n, ds, rfl, en, q⟩ := r.lst
    simp only [truV] at e
    simp only [dTru, en, q.isEmpty]; exact e
  | dct xs =>
    obtain ⟨n, ds, rfl, en, q⟩ := r.dct
    simp only [truV] at e
    simp only [dTru, en, emp_len q.len]; exact e
  | _ => simp only [truV] at e; cases e
end
section
variable {m ma mb mc : EM} {F Fa Fb Fc : VM} {ms mk : AM} {Fs Fk : VAM} {t ta tb : TM} {Ft Fta Ftb : VTM}
def vTru (a : VM) : VTM := fun env Q E => a env (fun v => vO (truV v) Q) E
def vTest (a : VM) : VTM := fun env Q E => a env (fun v => match v with | .bl b => Q b | _ => False) E
def vtAnd (a b : VTM) : VTM := fun env Q E => a env (fun k => if k = true then b env Q E else Q false) E
def vtOr (a b : VTM) : VTM := fun env Q E => a env (fun k => if k = true then Q true else b env Q E) E
def vtNot (a : VTM) : VTM := fun env Q E => a env (fun k => Q (!k)) E
def vtTrue : VTM := fun _ Q _ => Q true
def vIf (t : VTM) (a b : VM) : VM := fun env Q E => t env (fun k => if k = true then a env Q E else b env Q E) E
def vAnd (a b : VM) : VM := fun env Q E => a env (fun v => vO (truV v) fun k => if k = true then b env Q E else Q v) E
def vOr (a b : VM) : VM := fun env Q E => a env (fun v => vO (truV v) fun k => if k = true then Q v else b env Q E) E
def vNot (a : VM) : VM := fun env Q E => a env (fun v => vO (truV v) fun k => Q (.bl (!k))) E
theorem t_tru (j : JP m F) : JT (mTru m) (vTru F) := fun h c S0 A0 A ρ S env Q E I ff => by
  refine wx_bind ((j h c S0 A0 A ρ S env _ E I ff).mono ?_ fun _ _ z => z)
  rintro x S1 ⟨a1, v, r1, q⟩
  obtain ⟨k, ek, q⟩ := vO_elim q
  simp only [truV_ok r1 ek]
  exact ⟨a1, q⟩
theorem t_test (j : JP m F) : JT (mTest m) (vTest F) := fun h c S0 A0 A ρ S env Q E I ff => by
  refine wx_bind ((j h c S0 A0 A ρ S env _ E I ff).mono ?_ fun _ _ z => z)
  rintro x S1 ⟨a1, v, r1, q⟩
  cases v with
  | bl b => have e := r1.flat rfl; simp only [RV] at e; subst e; exact ⟨a1, q⟩
  | _ => exact q.elim
theorem t_and (ja : JT ta Fta) (jb : JT tb Ftb) : JT (tAnd' ta tb) (vtAnd Fta Ftb) := fun h c S0 A0 A ρ S env Q E I ff => by
  refine wx_bind ((ja h c S0 A0 A ρ S env _ E I ff).mono ?_ fun _ _ z => z)
  rintro k S1 ⟨a1, q⟩
  cases k with
  | true => exact (jb h c S0 A0 A ρ S1 env _ E (I.go a1) q).mono (fun _ _ ⟨a, z⟩ => ⟨a1.trans a, z⟩) fun _ _ ⟨a, z⟩ => ⟨a1.trans a, z⟩
  | false => exact ⟨a1, q⟩
theorem t_or (ja : JT ta Fta) (jb : JT tb Ftb) : JT (tOr' ta tb) (vtOr Fta Ftb) := fun h c S0 A0 A ρ S env Q E I ff => by
  refine wx_bind ((ja h c S0 A0 A ρ S env _ E I ff).mono ?_ fun _ _ z => z)
  rintro k S1 ⟨a1, q⟩
  cases k with
  | false => exact (jb h c S0 A0 A ρ S1 env _ E (I.go a1) q).mono (fun _ _ ⟨a, z⟩ => ⟨a1.trans a, z⟩) fun _ _ ⟨a, z⟩ => ⟨a1.trans a, z⟩
  | true => exact ⟨a1, q⟩
theorem t_not (ja : JT ta Fta) : JT (tNot' ta) (vtNot Fta) := fun h c S0 A0 A ρ S env Q E I ff => by
  refine wx_bind ((ja h c S0 A0 A ρ S env _ E I ff).mono ?_ fun _ _ z => z)
  rintro k S1 ⟨a1, q⟩
  exact ⟨a1, q⟩
theorem t_true : JT tTrue vtTrue := fun h c S0 A0 A ρ S env Q E I ff => ⟨.refl I.hand, ff⟩
theorem j_if (jt : JT t Ft) (ja : JE ma Fa) (jb : JE mb Fb) : JE (mIf t ma mb) (vIf Ft Fa Fb) := fun h c S0 A0 A ρ S env Q E I ff => by
  refine wx_bind ((jt h c S0 A0 A ρ S env _ E I ff).mono ?_ fun _ _ z => z)
  rintro k S1 ⟨a1, q⟩
  cases k with
  | true => exact (ja h c S0 A0 A ρ S1 env _ E (I.go a1) q).mono (fun _ _ ⟨a, z⟩ => ⟨a1.trans a, z⟩) fun _ _ ⟨a, z⟩ => ⟨a1.trans a, z⟩
  | false => exact (jb h c S0 A0 A ρ S1 env _ E (I.go a1) q).mono (fun _ _ ⟨a, z⟩ => ⟨a1.trans a, z⟩) fun _ _ ⟨a, z⟩ => ⟨a1.trans a, z⟩
theorem f_if (jt : JT t Ft) (ja : JF ma Fa) (jb : JF mb Fb) : JF (mIf t ma mb) (vIf Ft Fa Fb) := fun h c S0 A0 A ρ S env Q E I ff => by
  refine wx_bind ((jt h c S0 A0 A ρ S env _ E I ff).mono ?_ fun _ _ z => z)
  rintro k S1 ⟨a1, q⟩
  cases k with
  | true => exact (ja h c S0 A0 A ρ S1 env _ E (I.go a1) q).mono (fun _ _ ⟨a, v, r, z⟩ => ⟨a1.trans a, v, r.from a1.2.1, z⟩) fun _ _ ⟨a, z⟩ => ⟨a1.trans a, z⟩
  | false => exact (jb h c S0 A0 A ρ S1 env _ E (I.go a1) q).mono (fun _ _ ⟨a, v, r, z⟩ => ⟨a1.trans a, v, r.from a1.2.1, z⟩) fun _ _ ⟨a, z⟩ => ⟨a1.trans a, z⟩
theorem j_and (ja : JE ma Fa) (jb : JE mb Fb) : JE (mAnd ma mb) (vAnd Fa Fb) := fun h c S0 A0 A ρ S env Q E I ff => by
  refine wx_bind ((ja h c S0 A0 A ρ S env _ E I ff).mono ?_ fun _ _ z => z)
  rintro x S1 ⟨a1, v, r1, q⟩
  obtain ⟨k, ek, q⟩ := vO_elim q
  simp only [truV_ok (c := c) (.inl r1) ek]
  cases k with
  | true => exact (jb h c S0 A0 A ρ S1 env _ E (I.go a1) q).mono (fun _ _ ⟨a, z⟩ => ⟨a1.trans a, z⟩) fun _ _ ⟨a, z⟩ => ⟨a1.trans a, z⟩
  | false => exact ⟨a1, v, r1, q⟩
theorem j_or (ja : JE ma Fa) (jb : JE mb Fb) : JE (mOr ma mb) (vOr Fa Fb) := fun h c S0 A0 A ρ S env Q E I ff => by
  refine wx_bind ((ja h c S0 A0 A ρ S env _ E I ff).mono ?_ fun _ _ z => z)
  rintro x S1 ⟨a1, v, r1, q⟩
  obtain ⟨k, ek, q⟩ := vO_elim q
  simp only [truV_ok (c := c) (.inl r1) ek]
  cases k with
  | false => exact (jb h c S0 A0 A ρ S1 env _ E (I.go a1) q).mono (fun _ _ ⟨a, z⟩ => ⟨a1.trans a, z⟩) fun _ _ ⟨a, z⟩ => ⟨a1.trans a, z⟩
  | true => exact ⟨a1, v, r1, q⟩
theorem f_not (ja : JP ma Fa) : JF (mNot ma) (vNot Fa) := fun h c S0 A0 A ρ S env Q E I ff => by
  refine wx_bind ((ja h c S0 A0 A ρ S env _ E I ff).mono ?_ fun _ _ z => z)
  rintro x S1 ⟨a1, v, r1, q⟩
  obtain ⟨k, ek, q⟩ := vO_elim q
  simp only [truV_ok r1 ek]
  exact ⟨a1, .bl (!k), .inl ⟨rfl, by simp only [RV]⟩, q⟩
/-- a op b op' c -/
def vChain (f g : Vl → Vl → Option Vl) (a b cc : VM) : VM := fun env Q E => a env (fun x => b env (fun y => vO (f x y) fun z => match z with
  | .bl true => cc env (fun w => vO (g y w) Q) E
  | .bl false => Q (.bl false)
  | _ => False) E) E
theorem f_chain {f g : DOp} {f' g' : Vl → Vl → Option Vl} (of : OpF f f') (og : OpF g g') (ja : JP ma Fa) (jb : JP mb Fb) (jc : JP mc Fc) : JF (mChain f g ma mb mc) (vChain f' g' Fa Fb Fc) := fun h c S0 A0 A ρ S env Q E I ff => by
  refine two_go ja jb I ff fun x y S2 v w a r1 r2 q => ?_
  obtain ⟨z, ez, q⟩ := vO_elim q
  obtain ⟨d, S3, e, st, rr⟩ := of h c A S2 x y v w z (I.go a).ctx r1 r2 ez
  rw [e]
  have a3 := a.1.stp st
  cases z with
  | bl b =>
    rcases rr with ⟨_, rr⟩ | ⟨_, _, _, rr⟩
    · simp only [RV] at rr
      subst rr
      cases b with
      | true =>
        show WX' ((mc ρ S3).bind fun w S4 => ofO (g y w S4)) _ _
        refine wx_bind ((jc h c S0 A0 A ρ S3 env _ E (I.go (a.trans a3)) q).mono ?_ fun e S' ⟨b, z⟩ => ⟨(a.trans a3).trans b, z⟩)
        rintro u S4 ⟨a4, u', r4, q⟩
        obtain ⟨r, er, q⟩ := vO_elim q
        have I3 := I.go (a.trans a3)
        obtain ⟨d, S5, e, st, rr⟩ := og h c A S4 y u w u' r (I3.go a4).ctx (I3.ctx.lk a4 ((I.go a).ctx.lk a3 r2)) r4 er
        exact wx_ofO e ⟨((a.trans a3).trans a4).trans (a4.1.stp st), r, rr.from ((a.trans a3).trans a4).2.1, q⟩
      | false => exact ⟨a.trans a3, .bl false, .inl ⟨rfl, by simp only [RV]⟩, q⟩
    · exact rr.elim
  | _ => exact q.elim
end

/-! ### statements -/
structure VP where
  nx : VEnv → Prop
  rt : Vl → Prop
  bk : VEnv → Prop := fun _ => False
  ct : VEnv → Prop := fun _ => False
  ex : VX → VEnv → Prop := fun _ _ => False
abbrev VSM := VEnv → VP → Prop
section
variable {h c : Nat} {A A0 B : List Nat} {S S0 S' S1 : Sto} {v w : Vl} {d : D} {ρ : Ev} {env : VEnv}
/-- behind a statement -/
def VQ (fr : Bool) (h c : Nat) (S0 : Sto) (A0 A : List Nat) (S : Sto) (P : VP) : Post where
  nx := fun ρ' S' => ∃ A' env', VI h c S0 A0 A' ρ' S' env' ∧ Mv A S A' S' ∧ P.nx env'
  rt := fun d S' => Adv h c S0 S' ∧ ∃ v, (if fr = true then FV h A0 S0 S' v d else RV h A0 S' v d) ∧ P.rt v
  bk := fun ρ' S' => ∃ A' env', VI h c S0 A0 A' ρ' S' env' ∧ Mv A S A' S' ∧ P.bk env'
  ct := fun ρ' S' => ∃ A' env', VI h c S0 A0 A' ρ' S' env' ∧ Mv A S A' S' ∧ P.ct env'
  ex := fun e ρ' S' => ∃ A' env', VI h c S0 A0 A' ρ' S' env' ∧ Mv A S A' S' ∧ ∃ x, RXx h A' S' x e ∧ P.ex x env'
theorem VQ.from {fr : Bool} {P : VP} {r : SR} (m : Mv A S B S1) (x : WS r (VQ fr h c S0 A0 B S1 P)) : WS r (VQ fr h c S0 A0 A S P) :=
  WS.mono x (fun _ _ ⟨A', e, a, b, q⟩ => ⟨A', e, a, m.trans b, q⟩) (fun _ _ z => z) (fun _ _ ⟨A', e, a, b, q⟩ => ⟨A', e, a, m.trans b, q⟩) (fun _ _ ⟨A', e, a, b, q⟩ => ⟨A', e, a, m.trans b, q⟩)
    fun _ _ _ ⟨A', e, a, b, q⟩ => ⟨A', e, a, m.trans b, q⟩
theorem VI.mvA (I : VI h c S0 A0 A ρ S env) (a : Adv h c S S') : Mv A S A S' := Mv.stp (I.stpA a.2)
theorem wsx_of {α : Type} {r : R α} {f : α → Sto → SR} {Q : Post} (x : WX' r (fun a S1 => WS (f a S1) Q) fun e S1 => Q.ex e ρ S1) : WS (r.bindS ρ f) Q := by
  cases r with
  | stk => exact x
  | ok a S => exact x
  | ex e S => exact x
end
def JS (fr : Bool) (m : SM) (F : VSM) : Prop := ∀ (h c : Nat) (S0 : Sto) (A0 A : List Nat) (ρ : Ev) (S : Sto) (env : VEnv) (P : VP), VI h c S0 A0 A ρ S env → F env P → WS (m ρ S) (VQ fr h c S0 A0 A S P)
section
variable {h c : Nat} {A A0 B : List Nat} {S S0 S' S1 : Sto} {v w : Vl} {d : D} {ρ : Ev} {env : VEnv}
/-- a slot gets a value that anybody may know -/
theorem VI.put (I : VI h c S0 A0 A ρ S env) (i : Nat) (r : RV h A S v d) : VI h c S0 A0 A (ρ.set i (some d)) S (env.set i (some (.sh v))) where
  h0 := I.h0
  adv := I.adv
  hA := I.hA
  cA := I.cA
  lt0 := I.lt0
  sub := I.sub
  lt := I.lt
  new := I.new
  len := by simpa using I.len
  sh := fun j u e => by
    by_cases hj : j = i
    · subst hj
      have hl : j < env.length := by
        have := (List.getElem?_eq_some_iff.mp e).1
        simpa using this
      rw [List.getElem?_set_self hl] at e
      cases e
      exact ⟨d, List.getElem?_set_self (by rw [I.len]; exact hl), r⟩
    · rw [List.getElem?_set_ne (Ne.symm hj)] at e
      obtain ⟨d', a, b⟩ := I.sh j u e
      exact ⟨d', by rw [List.getElem?_set_ne (Ne.symm hj)]; exact a, b⟩
  ow := fun j u e => by
    by_cases hj : j = i
    · subst hj
      have hl : j < env.length := by
        have := (List.getElem?_eq_some_iff.mp e).1
        simpa using this
      rw [List.getElem?_set_self hl] at e
      cases e
    · rw [List.getElem?_set_ne (Ne.symm hj)] at e
      obtain ⟨n, a, b⟩ := I.ow j u e
      exact ⟨n, by rw [List.getElem?_set_ne (Ne.symm hj)]; exact a, b⟩
  inj := fun j k u u' n e1 e2 e3 e4 => by
    have ne : ∀ {j u}, (env.set i (some (VS.sh v)))[j]? = some (some (VS.ow u)) → j ≠ i := fun {j u} e z => by
      subst z
      have hl : j < env.length := by
        have := (List.getElem?_eq_some_iff.mp e).1
        simpa using this
      rw [List.getElem?_set_self hl] at e
      cases e
    have h1 := ne e1
    have h2 := ne e2
    rw [List.getElem?_set_ne (Ne.symm h1)] at e1 e3
    rw [List.getElem?_set_ne (Ne.symm h2)] at e2 e4
    exact I.inj j k u u' n e1 e2 e3 e4
/-- .. or a new list, dict or instance of its own; S1 is the state ahead of it -/
theorem VI.own (I : VI h c S0 A0 A ρ S1 env) (a : Adv h c S1 S) (i : Nat) {n : Nat} (hn : S1.length ≤ n) (r : RO h (n :: A) S v n) : VI h c S0 A0 (n :: A) (ρ.set i (some (.ref n))) S (env.set i (some (.ow v))) ∧ Mv A S1 (n :: A) S := by
  have m : Mv A S1 (n :: A) S := Mv.out (fun k hk => (List.mem_cons.mp hk).elim (fun z => .inr (z ▸ hn)) .inl) (I.stpA a.2)
  refine ⟨{ h0 := I.h0, adv := I.adv.trans a, hA := I.hA, cA := I.cA, lt0 := I.lt0, sub := fun k hk => List.mem_cons_of_mem _ (I.sub k hk), lt := fun k hk => ?_, new := fun k hk => ?_, len := by simpa using I.len, sh := fun j u e => ?_, ow := fun j u e => ?_, inj := fun j k u u' q e1 e2 e3 e4 => ?_ }, m⟩
  · rcases List.mem_cons.mp hk with rfl | hk
    · exact r.lt
    · exact Nat.lt_of_lt_of_le (I.lt k hk) a.2.1
  · rcases List.mem_cons.mp hk with rfl | hk
    · exact .inr (Nat.le_trans I.adv.2.1 hn)
    · exact I.new k hk
  · by_cases hj : j = i
    · subst hj
      have hl : j < env.length := by
        have := (List.getElem?_eq_some_iff.mp e).1
        simpa using this
      rw [List.getElem?_set_self hl] at e
      cases e
    · rw [List.getElem?_set_ne (Ne.symm hj)] at e
      obtain ⟨d', x, y⟩ := I.sh j u e
      exact ⟨d', by rw [List.getElem?_set_ne (Ne.symm hj)]; exact x, RV.mv m y⟩
  · by_cases hj : j = i
    · subst hj
      have hl : j < env.length := by
        have := (List.getElem?_eq_some_iff.mp e).1
        simpa using this
      rw [List.getElem?_set_self hl] at e
      cases e
      exact ⟨n, List.getElem?_set_self (by rw [I.len]; exact hl), List.mem_cons_self, Nat.le_trans I.adv.2.1 hn, r⟩
    · rw [List.getElem?_set_ne (Ne.symm hj)] at e
      obtain ⟨k, x, y, z, rr⟩ := I.ow j u e
      exact ⟨k, by rw [List.getElem?_set_ne (Ne.symm hj)]; exact x, List.mem_cons_of_mem _ y, z, RO.mv m (fun q e => a.2.at_ (I.ne z) e) rr⟩
  · have old : ∀ {j u}, j ≠ i → (env.set i (some (VS.ow v)))[j]? = some (some (VS.ow u)) → (ρ.set i (some (D.ref n)))[j]? = some (some (D.ref q)) → env[j]? = some (some (VS.ow u)) ∧ ρ[j]? = some (some (D.ref q)) ∧ q ≠ n := fun {j u} hj e e' => by
      rw [List.getElem?_set_ne (Ne.symm hj)] at e e'
      refine ⟨e, e', fun z => ?_⟩
      obtain ⟨k, x, y, _⟩ := I.ow j u e
      rw [e'] at x
      cases x
      have := I.lt _ y
      omega
    have self : ∀ {j u}, j = i → (env.set i (some (VS.ow v)))[j]? = some (some (VS.ow u)) → (ρ.set i (some (D.ref n)))[j]? = some (some (D.ref q)) → q = n := fun {j u} hj e e' => by
      subst hj
      have hl : j < env.length := by
        have := (List.getElem?_eq_some_iff.mp e).1
        simpa using this
      rw [List.getElem?_set_self (by rw [I.len]; exact hl)] at e'
      cases e'; rfl
    by_cases h1 : j = i
    · by_cases h2 : k = i
      · rw [h1, h2]
      · exact absurd (self h1 e1 e3) (old h2 e2 e4).2.2
    · by_cases h2 : k = i
      · exact absurd (self h2 e2 e4) (old h1 e1 e3).2.2
      · obtain ⟨a1, a2, _⟩ := old h1 e1 e3
        obtain ⟨b1, b2, _⟩ := old h2 e2 e4
        exact I.inj j k u u' q a1 b1 a2 b2
/-- the cell of a slot's own object is written -/
theorem VI.upd (I : VI h c S0 A0 A ρ S env) {i n : Nat} {x : Cell} (e : env[i]? = some (some (VS.ow v))) (en : ρ[i]? = some (some (D.ref n))) (r : RO h A (S.set n x) w n) : VI h c S0 A0 A ρ (S.set n x) (env.set i (some (.ow w))) ∧ Mv A S A (S.set n x) := by
  obtain ⟨n', e', hn, hl, r0⟩ := I.ow i v e
  rw [en] at e'
  cases e'
  have st : Stp A S (S.set n x) := .set hn
  have m := Mv.stp st
  refine ⟨{ h0 := I.h0, adv := ?_, hA := I.hA, cA := I.cA, lt0 := I.lt0, sub := I.sub, lt := fun k hk => by simpa using I.lt k hk, new := I.new, len := by simpa using I.len, sh := fun j u e1 => ?_, ow := fun j u e1 => ?_, inj := fun j k u u' q e1 e2 e3 e4 => ?_ }, m⟩
  · refine ⟨?_, I.adv.2.new hl⟩
    obtain ⟨hne, ns, mm, dd, hl', f1, f2⟩ := I.adv.1
    have o := I.ne hl
    have o1 : n ≠ h := fun z => o (by simp [z])
    have o2 : n ≠ c := fun z => o (by simp [z])
    exact ⟨hne, ns, mm, dd, hl', by rw [List.getElem?_set_ne o1]; exact f1, by rw [List.getElem?_set_ne o2]; exact f2⟩
  · have hj : j ≠ i := fun z => by
      subst z
      have hl : j < env.length := (List.getElem?_eq_some_iff.mp e).1
      rw [List.getElem?_set_self hl] at e1
      cases e1
    rw [List.getElem?_set_ne (Ne.symm hj)] at e1
    obtain ⟨d', a, b⟩ := I.sh j u e1
    exact ⟨d', a, RV.mv m b⟩
  · by_cases hj : j = i
    · subst hj
      have hl' : j < env.length := (List.getElem?_eq_some_iff.mp e).1
      rw [List.getElem?_set_self hl'] at e1
      cases e1
      exact ⟨n, en, hn, hl, r⟩
    · rw [List.getElem?_set_ne (Ne.symm hj)] at e1
      obtain ⟨k, a, b, z, rr⟩ := I.ow j u e1
      have hk : k ≠ n := fun z => by
        subst z
        exact hj (I.inj j i u v k e1 e a en)
      exact ⟨k, a, b, z, RO.mv m (fun y ey => by rw [List.getElem?_set_ne (Ne.symm hk)]; exact ey) rr⟩
  · have back : ∀ {j u}, (env.set i (some (VS.ow w)))[j]? = some (some (VS.ow u)) → ∃ u', env[j]? = some (some (VS.ow u')) := fun {j u} e1 => by
      by_cases hj : j = i
      · subst hj; exact ⟨v, e⟩
      · rw [List.getElem?_set_ne (Ne.symm hj)] at e1; exact ⟨u, e1⟩
    obtain ⟨u1, f1⟩ := back e1
    obtain ⟨u2, f2⟩ := back e2
    exact I.inj j k u1 u2 q f1 f2 e3 e4
/-- slots are forgotten -/
theorem VI.drop (I : VI h c S0 A0 A ρ S env) (i : Nat) (o : Option D) : VI h c S0 A0 A (ρ.set i o) S (env.set i none) := by
  have ne : ∀ {j : Nat} {u : VS}, (env.set i none)[j]? = some (some u) → j ≠ i ∧ env[j]? = some (some u) := fun {j u} e => by
    by_cases hj : j = i
    · subst hj
      have hl : j < env.length := by
        have := (List.getElem?_eq_some_iff.mp e).1
        simpa using this
      rw [List.getElem?_set_self hl] at e
      cases e
    · rw [List.getElem?_set_ne (Ne.symm hj)] at e
      exact ⟨hj, e⟩
  refine { h0 := I.h0, adv := I.adv, hA := I.hA, cA := I.cA, lt0 := I.lt0, sub := I.sub, lt := I.lt, new := I.new, len := by simpa using I.len, sh := fun j u e1 => ?_, ow := fun j u e1 => ?_, inj := fun j k u u' q e1 e2 e3 e4 => ?_ }
  · obtain ⟨a, b⟩ := ne e1
    obtain ⟨d, x, y⟩ := I.sh j u b
    exact ⟨d, by rw [List.getElem?_set_ne (Ne.symm a)]; exact x, y⟩
  · obtain ⟨a, b⟩ := ne e1
    obtain ⟨d, x, y⟩ := I.ow j u b
    exact ⟨d, by rw [List.getElem?_set_ne (Ne.symm a)]; exact x, y⟩
  · obtain ⟨a, b⟩ := ne e1
    obtain ⟨a', b'⟩ := ne e2
    rw [List.getElem?_set_ne (Ne.symm a)] at e3
    rw [List.getElem?_set_ne (Ne.symm a')] at e4
    exact I.inj j k u u' q b b' e3 e4
/-- a slot's own object may be known by anybody from now on -/
theorem VI.frz (I : VI h c S0 A0 A ρ S env) {i : Nat} (e : env[i]? = some (some (VS.ow v))) : ∃ B, VI h c S0 A0 B ρ S (env.set i (some (.sh v))) ∧ Mv A S B S := by
  obtain ⟨n, en, hn, hl, r⟩ := I.ow i v e
  have hi : i < env.length := (List.getElem?_eq_some_iff.mp e).1
  have sb : ∀ k, k ∈ A.filter (fun k => decide (k ≠ n)) → k ∈ A := fun k hk => (List.mem_filter.mp hk).1
  have m : Mv A S (A.filter fun k => decide (k ≠ n)) S := Mv.sub sb
  have nA0 : n ∉ A0 := fun z => by
    have := I.lt0 n z
    omega
  refine ⟨A.filter fun k => decide (k ≠ n), { h0 := I.h0, adv := I.adv, hA := I.hA, cA := I.cA, lt0 := I.lt0, sub := fun k hk => ?_, lt := fun k hk => I.lt k (sb k hk), new := fun k hk => I.new k (sb k hk), len := by simpa using I.len, sh := fun j u e1 => ?_, ow := fun j u e1 => ?_, inj := fun j k u u' q e1 e2 e3 e4 => ?_ }, m⟩
  · exact List.mem_filter.mpr ⟨I.sub k hk, by
      have : k ≠ n := fun z => nA0 (by rw [← z]; exact hk)
      simpa using this⟩
  · by_cases hj : j = i
    · subst hj
      rw [List.getElem?_set_self hi] at e1
      cases e1
      exact ⟨_, en, r.free sb fun z => by simpa using (List.mem_filter.mp z).2⟩
    · rw [List.getElem?_set_ne (Ne.symm hj)] at e1
      obtain ⟨d, x, y⟩ := I.sh j u e1
      exact ⟨d, x, RV.mv m y⟩
  · have hj : j ≠ i := fun z => by
      subst z
      rw [List.getElem?_set_self hi] at e1
      cases e1
    rw [List.getElem?_set_ne (Ne.symm hj)] at e1
    obtain ⟨k, x, y, z, rr⟩ := I.ow j u e1
    refine ⟨k, x, List.mem_filter.mpr ⟨y, ?_⟩, z, RO.mv m (fun _ z => z) rr⟩
    have : k ≠ n := fun q => by
      subst q
      exact hj (I.inj j i u v k e1 e x en)
    simpa using this
  · have ne : ∀ {j u}, (env.set i (some (VS.sh v)))[j]? = some (some (VS.ow u)) → env[j]? = some (some (VS.ow u)) := fun {j u} e1 => by
      by_cases hj : j = i
      · subst hj
        rw [List.getElem?_set_self hi] at e1
        cases e1
      · rw [List.getElem?_set_ne (Ne.symm hj)] at e1
        exact e1
    exact I.inj j k u u' q (ne e1) (ne e2) e3 e4
end
end DL

/-! the V-layer: statements -/
namespace DL
open PySem L2
def JM (fr : Bool) (m : EM) (F : VM) : Prop := match fr with
  | true => JF m F
  | false => JE m F
theorem JM.e {m : EM} {F : VM} : ∀ {fr : Bool}, JM fr m F → JE m F
  | true, j => JF.e j
  | false, j => j
/-- the slot that a value gets -/
def mk (fr : Bool) (v : Vl) : VS := if (fr && isC v) = true then .ow v else .sh v
section
variable {h c : Nat} {A A0 B : List Nat} {S S0 S' S1 : Sto} {v w : Vl} {d : D} {ρ : Ev} {env : VEnv}
/-- a value of mode fr -/
def MV (fr : Bool) (h : Nat) (A : List Nat) (S S' : Sto) (v : Vl) (d : D) : Prop := match fr with
  | true => FV h A S S' v d
  | false => RV h A S' v d
theorem JM.run {m : EM} {F : VM} {Q : Vl → Prop} {E : VX → Prop} : ∀ {fr : Bool}, JM fr m F → VI h c S0 A0 A ρ S env → F env Q E →
    WX' (m ρ S) (fun d S' => Adv h c S S' ∧ ∃ v, MV fr h A S S' v d ∧ Q v) (fun e S' => Adv h c S S' ∧ ∃ x, RXx h A S' x e ∧ E x)
  | true, j, I, f => j h c S0 A0 A ρ S env Q E I f
  | false, j, I, f => j h c S0 A0 A ρ S env Q E I f
/-- a slot gets a value that has just been made -/
theorem VI.gets (I : VI h c S0 A0 A ρ S env) (a : Adv h c S S') (i : Nat) : ∀ {fr : Bool}, MV fr h A S S' v d → ∃ B, VI h c S0 A0 B (ρ.set i (some d)) S' (env.set i (some (DL.mk fr v))) ∧ Mv A S B S'
  | false, r => ⟨A, (I.go a).put i r, I.mvA a⟩
  | true, r => by
    rcases r with ⟨z, r⟩ | ⟨n, rfl, hn, r⟩
    · refine ⟨A, ?_, I.mvA a⟩
      have : DL.mk true v = .sh v := by unfold DL.mk; rw [z]; rfl
      rw [this]
      exact (I.go a).put i r
    · have : DL.mk true v = .ow v := by
        unfold DL.mk
        cases v <;> first | rfl | exact r.elim
      rw [this]
      exact ⟨_, I.own a i hn r⟩
/-- an exception out of an expression -/
theorem VQ.exn {fr : Bool} {P : VP} {e : Exn} (I : VI h c S0 A0 A ρ S env) (a : Adv h c S S') (z : ∃ x, RXx h A S' x e ∧ P.ex x env) : (VQ fr h c S0 A0 A S P).ex e ρ S' := ⟨A, env, I.go a, I.mvA a, z⟩
theorem VQ.nxt {fr : Bool} {P : VP} {ρ' : Ev} {env' : VEnv} (I : VI h c S0 A0 B ρ' S' env') (m : Mv A S B S') (q : P.nx env') : (VQ fr h c S0 A0 A S P).nx ρ' S' := ⟨B, env', I, m, q⟩
end
section
variable {fr f1 f2 : Bool} {m ma mb : EM} {F Fa Fb : VM} {a b : SM} {G Ga Gb : VSM} {t : TM} {Ft : VTM} {ms : AM} {Fs : VAM}
def vSeq (a b : VSM) : VSM := fun env P => a env { P with nx := fun e => b e P }
def vSet (fr : Bool) (i : Nat) (F : VM) : VSM := fun env P => F env (fun v => P.nx (env.set i (some (mk fr v)))) (fun x => P.ex x env)
def vDrop (F : VM) : VSM := fun env P => F env (fun _ => P.nx env) (fun x => P.ex x env)
def vRet (F : VM) : VSM := fun env P => F env P.rt (fun x => P.ex x env)
/-- return NAME -/
def vRetV (fr : Bool) (i : Nat) : VSM := fun env P => match env[i]? with
  | some (some (.sh v)) => (fr = true → isC v = false) ∧ P.rt v
  | some (some (.ow v)) => P.rt v
  | _ => False
def vRetN : VSM := fun _ P => P.rt .non
def vNext : VSM := fun env P => P.nx env
def vBreak : VSM := fun env P => P.bk env
def vCont : VSM := fun env P => P.ct env
def vIfS (t : VTM) (a b : VSM) : VSM := fun env P => t env (fun k => if k = true then a env P else b env P) (fun x => P.ex x env)
theorem s_seq (ja : JS fr a Ga) (jb : JS fr b Gb) : JS fr (sSeq a b) (vSeq Ga Gb) := fun h c S0 A0 A ρ S env P I f => by
  refine ws_seq (WS.mono (ja h c S0 A0 A ρ S env _ I f) ?_ (fun _ _ z => z) (fun _ _ z => z) (fun _ _ z => z) fun _ _ _ z => z)
  rintro ρ' S' ⟨A', env', I', mv, q⟩
  exact VQ.from mv (jb h c S0 A0 A' ρ' S' env' P I' q)
theorem s_set (i : Nat) (j : JM f1 m F) : JS fr (sSet i m) (vSet f1 i F) := fun h c S0 A0 A ρ S env P I f => by
  refine wsx_of ((j.run I f).mono ?_ fun e S' ⟨a, z⟩ => VQ.exn I a z)
  rintro d S' ⟨a, v, r, q⟩
  obtain ⟨B, I', mv⟩ := I.gets a i r
  exact VQ.nxt I' mv q
theorem s_drop (j : JE m F) : JS fr (sDrop m) (vDrop F) := fun h c S0 A0 A ρ S env P I f => by
  refine wsx_of ((j h c S0 A0 A ρ S env _ _ I f).mono ?_ fun e S' ⟨a, z⟩ => VQ.exn I a z)
  rintro d S' ⟨a, v, r, q⟩
  exact VQ.nxt (I.go a) (I.mvA a) q
theorem s_ret (j : JM fr m F) : JS fr (sRet m) (vRet F) := fun h c S0 A0 A ρ S env P I f => by
  refine wsx_of ((j.run I f).mono ?_ fun e S' ⟨a, z⟩ => VQ.exn I a z)
  rintro d S' ⟨a, v, r, q⟩
  refine ⟨I.adv.trans a, v, ?_, q⟩
  have m : Mv A S' A0 S' := Mv.sub I.sub
  cases fr with
  | false => exact RV.mv m r
  | true =>
    rw [if_pos rfl]
    rcases r with ⟨z, r⟩ | ⟨n, rfl, hn, r⟩
    · exact .inl ⟨z, RV.mv m r⟩
    · refine .inr ⟨n, rfl, Nat.le_trans I.adv.2.1 hn, RO.mv (Mv.sub fun k hk => ?_) (fun _ z => z) r⟩
      rcases List.mem_cons.mp hk with rfl | hk
      · exact List.mem_cons_self
      · exact List.mem_cons_of_mem _ (I.sub k hk)
theorem s_retV (i : Nat) : JS fr (sRet (mVar i)) (vRetV fr i) := fun h c S0 A0 A ρ S env P I f => by
  have m : Mv A S A0 S := Mv.sub I.sub
  unfold vRetV at f
  unfold sRet mVar
  split at f
  · rename_i v e
    obtain ⟨d, e1, r⟩ := I.sh i v e
    rw [e1]
    refine ⟨I.adv, v, ?_, f.2⟩
    cases fr with
    | false => exact RV.mv m r
    | true => rw [if_pos rfl]; exact .inl ⟨f.1 rfl, RV.mv m r⟩
  · rename_i v e
    obtain ⟨n, e1, hn, hl, r⟩ := I.ow i v e
    rw [e1]
    have nA0 : n ∉ A0 := fun z => by
      have := I.lt0 n z
      omega
    refine ⟨I.adv, v, ?_, f⟩
    cases fr with
    | false => exact r.free I.sub nA0
    | true =>
      rw [if_pos rfl]
      refine .inr ⟨n, rfl, hl, RO.mv (Mv.sub fun k hk => ?_) (fun _ z => z) r⟩
      rcases List.mem_cons.mp hk with rfl | hk
      · exact hn
      · exact I.sub k hk
  · exact f.elim
theorem s_retN : JS false sRetN vRetN := fun h c S0 A0 A ρ S env P I f => ⟨I.adv, .non, by rw [if_neg (by decide)]; simp only [RV], f⟩
theorem s_next : JS fr sNext vNext := fun h c S0 A0 A ρ S env P I f => VQ.nxt I Mv.refl f
theorem s_break : JS fr sBreak vBreak := fun h c S0 A0 A ρ S env P I f => ⟨A, env, I, Mv.refl, f⟩
theorem s_cont : JS fr sCont vCont := fun h c S0 A0 A ρ S env P I f => ⟨A, env, I, Mv.refl, f⟩
theorem s_if (jt : JT t Ft) (ja : JS fr a Ga) (jb : JS fr b Gb) : JS fr (sIf t a b) (vIfS Ft Ga Gb) := fun h c S0 A0 A ρ S env P I f => by
  refine wsx_of ((jt h c S0 A0 A ρ S env _ _ I f).mono ?_ fun e S' ⟨a, z⟩ => VQ.exn I a z)
  rintro k S' ⟨av, q⟩
  cases k with
  | true => exact VQ.from (I.mvA av) (ja h c S0 A0 A ρ S' env P (I.go av) q)
  | false => exact VQ.from (I.mvA av) (jb h c S0 A0 A ρ S' env P (I.go av) q)
/-- a statement that is not told -/
theorem s_stk {m : SM} : JS fr m (fun _ _ => False) := fun h c S0 A0 A ρ S env P I f => f.elim
theorem e_stk {m : EM} : JE m (fun _ _ _ => False) := fun h c S0 A0 A ρ S env Q E I f => f.elim
/-- what slots own may be known by anybody from now on -/
def frzS : Option VS → Option VS
  | some (.ow v) => some (.sh v)
  | o => o
def frz1 (env : VEnv) (i : Nat) : VEnv := match env[i]? with
  | some o => env.set i (frzS o)
  | none => env
def vFrz (i : Nat) (G : VSM) : VSM := fun env P => G (frz1 env i) P
theorem s_frz (i : Nat) (j : JS fr a Ga) : JS fr a (vFrz i Ga) := fun h c S0 A0 A ρ S env P I f => by
  unfold vFrz frz1 at f
  cases e : env[i]? with
  | none => rw [e] at f; exact j h c S0 A0 A ρ S env P I f
  | some o =>
    rw [e] at f
    have same : env.set i o = env := by
      refine List.ext_getElem? fun k => ?_
      by_cases hk : k = i
      · subst hk; rw [List.getElem?_set_self (List.getElem?_eq_some_iff.mp e).1, e]
      · rw [List.getElem?_set_ne (Ne.symm hk)]
    cases o with
    | none =>
      simp only [frzS, same] at f
      exact j h c S0 A0 A ρ S env P I f
    | some x =>
      cases x with
      | sh v =>
        simp only [frzS, same] at f
        exact j h c S0 A0 A ρ S env P I f
      | ow v =>
        simp only [frzS] at f
        obtain ⟨B, I', mv⟩ := I.frz e
        exact VQ.from mv (j h c S0 A0 B ρ S _ P I' f)
/-! a, b = x, y -/
def vPar (f1 f2 : Bool) (i j : Nat) (Fa Fb : VM) : VSM := fun env P => Fa env (fun x => Fb env (fun y => P.nx ((env.set i (some (mk f1 x))).set j (some (mk f2 y)))) (fun e => P.ex e env)) (fun e => P.ex e env)
/-- a new object is put by for a slot -/
theorem VI.resv {h c : Nat} {A A0 : List Nat} {S S0 S1 : Sto} {ρ : Ev} {env : VEnv} (I : VI h c S0 A0 A ρ S1 env) (a : Adv h c S1 S) {n : Nat} (hn : S1.length ≤ n) (hl : n < S.length) : VI h c S0 A0 (n :: A) ρ S env ∧ Mv A S1 (n :: A) S ∧ ∀ (j : Nat) (u : Vl), env[j]? = some (some (VS.ow u)) → ρ[j]? ≠ some (some (D.ref n)) := by
  have m : Mv A S1 (n :: A) S := Mv.out (fun k hk => (List.mem_cons.mp hk).elim (fun z => .inr (z ▸ hn)) .inl) (I.stpA a.2)
  refine ⟨{ h0 := I.h0, adv := I.adv.trans a, hA := I.hA, cA := I.cA, lt0 := I.lt0, sub := fun k hk => List.mem_cons_of_mem _ (I.sub k hk), lt := fun k hk => ?_, new := fun k hk => ?_, len := I.len, sh := fun j u e => ?_, ow := fun j u e => ?_, inj := I.inj }, m, fun j u e z => ?_⟩
  · rcases List.mem_cons.mp hk with rfl | hk
    · exact hl
    · exact Nat.lt_of_lt_of_le (I.lt k hk) a.2.1
  · rcases List.mem_cons.mp hk with rfl | hk
    · exact .inr (Nat.le_trans I.adv.2.1 hn)
    · exact I.new k hk
  · obtain ⟨d', x, y⟩ := I.sh j u e
    exact ⟨d', x, RV.mv m y⟩
  · obtain ⟨k, x, y, z, rr⟩ := I.ow j u e
    exact ⟨k, x, List.mem_cons_of_mem _ y, z, RO.mv m (fun q e => a.2.at_ (I.ne z) e) rr⟩
  · obtain ⟨k, x, y, _, _⟩ := I.ow j u e
    rw [z] at x
    cases x
    have := I.lt _ y
    omega
/-- a slot gets an object that was put by -/
theorem VI.give {h c : Nat} {A A0 : List Nat} {S S0 : Sto} {ρ : Ev} {env : VEnv} {v : Vl} (I : VI h c S0 A0 A ρ S env) (i : Nat) {n : Nat} (hn : n ∈ A) (hl : S0.length ≤ n) (ne : ∀ (j : Nat) (u : Vl), env[j]? = some (some (VS.ow u)) → ρ[j]? ≠ some (some (D.ref n))) (r : RO h A S v n) : VI h c S0 A0 A (ρ.set i (some (.ref n))) S (env.set i (some (.ow v))) := by
  refine { h0 := I.h0, adv := I.adv, hA := I.hA, cA := I.cA, lt0 := I.lt0, sub := I.sub, lt := I.lt, new := I.new, len := by simpa using I.len, sh := fun j u e => ?_, ow := fun j u e => ?_, inj := fun j k u u' q e1 e2 e3 e4 => ?_ }
  · by_cases hj : j = i
    · subst hj
      have hl : j < env.length := by
        have := (List.getElem?_eq_some_iff.mp e).1
        simpa using this
      rw [List.getElem?_set_self hl] at e
      cases e
    · rw [List.getElem?_set_ne (Ne.symm hj)] at e
      obtain ⟨d', x, y⟩ := I.sh j u e
      exact ⟨d', by rw [List.getElem?_set_ne (Ne.symm hj)]; exact x, y⟩
  · by_cases hj : j = i
    · subst hj
      have hl' : j < env.length := by
        have := (List.getElem?_eq_some_iff.mp e).1
        simpa using this
      rw [List.getElem?_set_self hl'] at e
      cases e
      exact ⟨n, List.getElem?_set_self (by rw [I.len]; exact hl'), hn, hl, r⟩
    · rw [List.getElem?_set_ne (Ne.symm hj)] at e
      obtain ⟨k, x, y, z, rr⟩ := I.ow j u e
      exact ⟨k, by rw [List.getElem?_set_ne (Ne.symm hj)]; exact x, y, z, rr⟩
  · have old : ∀ {j u}, j ≠ i → (env.set i (some (VS.ow v)))[j]? = some (some (VS.ow u)) → (ρ.set i (some (D.ref n)))[j]? = some (some (D.ref q)) → env[j]? = some (some (VS.ow u)) ∧ ρ[j]? = some (some (D.ref q)) ∧ q ≠ n := fun {j u} hj e e' => by
      rw [List.getElem?_set_ne (Ne.symm hj)] at e e'
      exact ⟨e, e', fun z => ne j u e (z ▸ e')⟩
    have self : ∀ {j u}, j = i → (env.set i (some (VS.ow v)))[j]? = some (some (VS.ow u)) → (ρ.set i (some (D.ref n)))[j]? = some (some (D.ref q)) → q = n := fun {j u} hj e e' => by
      subst hj
      have hl : j < env.length := by
        have := (List.getElem?_eq_some_iff.mp e).1
        simpa using this
      rw [List.getElem?_set_self (by rw [I.len]; exact hl)] at e'
      cases e'; rfl
    by_cases h1 : j = i
    · by_cases h2 : k = i
      · rw [h1, h2]
      · exact absurd (self h1 e1 e3) (old h2 e2 e4).2.2
    · by_cases h2 : k = i
      · exact absurd (self h2 e2 e4) (old h1 e1 e3).2.2
      · obtain ⟨a1, a2, _⟩ := old h1 e1 e3
        obtain ⟨b1, b2, _⟩ := old h2 e2 e4
        exact I.inj j k u u' q a1 b1 a2 b2
theorem s_par (i j : Nat) (hij : i ≠ j) (ja : JM f1 ma Fa) (jb : JM f2 mb Fb) : JS fr (sPar i j (aCons ma (aCons mb aNil))) (vPar f1 f2 i j Fa Fb) := fun h c S0 A0 A ρ S env P I f => by
  unfold sPar
  refine wsx_of (wx_bind ((ja.run I f).mono ?_ fun e S' ⟨a, z⟩ => VQ.exn I a z))
  rintro d1 S1 ⟨a1, v1, r1, f⟩
  -- the first value is put by
  have go : ∀ (B : List Nat) (I1 : VI h c S0 A0 B ρ S1 env) (m1 : Mv A S B S1)
      (fin : ∀ S2 d2 v2, Adv h c S1 S2 → MV f2 h B S1 S2 v2 d2 → P.nx ((env.set i (some (mk f1 v1))).set j (some (mk f2 v2))) → (VQ fr h c S0 A0 A S P).nx ((ρ.set i (some d1)).set j (some d2)) S2),
      WX' ((aCons mb aNil ρ S1).bind fun xs S2 => .ok (d1 :: xs) S2) (fun ds S2 => WS (match ds with | [d, d'] => .nx ((ρ.set i (some d)).set j (some d')) S2 | _ => .stk) (VQ fr h c S0 A0 A S P)) (fun e S2 => (VQ fr h c S0 A0 A S P).ex e ρ S2) := fun B I1 m1 fin => by
    refine wx_bind (wx_bind ((jb.run I1 f).mono ?_ fun e S' ⟨a, z⟩ => ⟨B, env, I1.go a, m1.trans (I1.mvA a), z⟩))
    rintro d2 S2 ⟨a2, v2, r2, q⟩
    exact fin S2 d2 v2 a2 r2 q
  have shared : RV h A S1 v1 d1 → DL.mk f1 v1 = .sh v1 → WX' ((aCons mb aNil ρ S1).bind fun xs S2 => .ok (d1 :: xs) S2) (fun ds S2 => WS (match ds with | [d, d'] => .nx ((ρ.set i (some d)).set j (some d')) S2 | _ => .stk) (VQ fr h c S0 A0 A S P)) (fun e S2 => (VQ fr h c S0 A0 A S P).ex e ρ S2) := fun r e1 => by
    refine go A (I.go a1) (I.mvA a1) fun S2 d2 v2 a2 r2 q => ?_
    rw [e1] at q
    have I2 := ((I.go a1).put i r)
    obtain ⟨B, I3, mv⟩ := I2.gets a2 j r2
    exact VQ.nxt I3 ((I.mvA a1).trans mv) q
  cases f1 with
  | false => exact shared r1 rfl
  | true =>
    rcases r1 with ⟨z, r1⟩ | ⟨n, rfl, hn, r1⟩
    · exact shared r1 (by unfold DL.mk; rw [z]; rfl)
    · have e1 : DL.mk true v1 = .ow v1 := by
        unfold DL.mk
        cases v1 <;> first | rfl | exact r1.elim
      obtain ⟨I1, m1, ne⟩ := I.resv a1 hn r1.lt
      refine go (n :: A) I1 m1 fun S2 d2 v2 a2 r2 q => ?_
      rw [e1] at q
      have hl : S0.length ≤ n := Nat.le_trans I.adv.2.1 hn
      have I2 := I1.give i List.mem_cons_self hl ne r1
      obtain ⟨B, I3, mv⟩ := I2.gets a2 j r2
      exact VQ.nxt I3 (m1.trans mv) q
end

/-! ### targets -/
mutual
def Tg.putV : Tg → Vl → VEnv → Option VEnv
  | .nm i, v, env => some (env.set i (some (.sh v)))
  | .tp ts, v, env => match v with
    | .tup vs => Tg.putVs ts vs env
    | _ => none
def Tg.putVs : List Tg → List Vl → VEnv → Option VEnv
  | [], [], env => some env
  | t :: ts, v :: vs, env => (t.putV v env).bind fun e => Tg.putVs ts vs e
  | _, _, _ => none
end
section
variable {h c : Nat} {A A0 B : List Nat} {S S0 S' S1 : Sto}
mutual
theorem Tg.putV_ok : ∀ (t : Tg) {v : Vl} {d : D} {ρ : Ev} {env env' : VEnv}, VI h c S0 A0 A ρ S env → RV h A S v d → t.putV v env = some env' → ∃ ρ', t.put d ρ = some ρ' ∧ VI h c S0 A0 A ρ' S env'
  | .nm i, v, d, ρ, env, env', I, r, e => by
    simp only [Tg.putV, Option.some.injEq] at e
    subst e
    exact ⟨_, rfl, I.put i r⟩
  | .tp ts, v, d, ρ, env, env', I, r, e => by
    cases v with
    | tup vs =>
      simp only [Tg.putV] at e
      simp only [RV] at r
      obtain ⟨ds, rfl, r⟩ := r
      simp only [Tg.put]
      exact Tg.putVs_ok ts I r e
    | _ => simp only [Tg.putV] at e; cases e
theorem Tg.putVs_ok : ∀ (ts : List Tg) {vs : List Vl} {ds : List D} {ρ : Ev} {env env' : VEnv}, VI h c S0 A0 A ρ S env → RVs h A S vs ds → Tg.putVs ts vs env = some env' → ∃ ρ', Tg.puts ts ds ρ = some ρ' ∧ VI h c S0 A0 A ρ' S env'
  | [], [], ds, ρ, env, env', I, r, e => by
    simp only [Tg.putVs, Option.some.injEq] at e
    simp only [RVs] at r
    subst e; subst r
    exact ⟨ρ, by simp only [Tg.puts], I⟩
  | t :: ts, v :: vs, ds, ρ, env, env', I, r, e => by
    simp only [Tg.putVs] at e
    obtain ⟨e1, h1, h2⟩ := Option.bind_eq_some_iff.mp e
    simp only [RVs] at r
    obtain ⟨d, q, rfl, a, b⟩ := r
    obtain ⟨ρ1, x1, I1⟩ := Tg.putV_ok t I a h1
    obtain ⟨ρ2, x2, I2⟩ := Tg.putVs_ok ts I1 b h2
    exact ⟨ρ2, by simp only [Tg.puts, x1]; exact x2, I2⟩
  | [], _ :: _, _, _, _, _, _, _, e => by simp only [Tg.putVs] at e; cases e
  | _ :: _, [], _, _, _, _, _, _, e => by simp only [Tg.putVs] at e; cases e
end
end
def vAsg (t : Tg) (F : VM) : VSM := fun env P => F env (fun v => vO (t.putV v env) P.nx) (fun x => P.ex x env)
theorem s_asg {fr : Bool} {t : Tg} {m : EM} {F : VM} (j : JE m F) : JS fr (sAsg t m) (vAsg t F) := fun h c S0 A0 A ρ S env P I f => by
  refine wsx_of ((j h c S0 A0 A ρ S env _ _ I f).mono ?_ fun e S' ⟨a, z⟩ => VQ.exn I a z)
  rintro d S' ⟨a, v, r, q⟩
  obtain ⟨env', e, q⟩ := vO_elim q
  obtain ⟨ρ', e1, I'⟩ := t.putV_ok (I.go a) r e
  simp only [e1]
  exact VQ.nxt I' (I.mvA a) q
end DL

/-! the V-layer: loops, comprehensions, objects that a slot owns, defs -/
namespace DL
open PySem L2

/-! ### what is walked -/
abbrev VIM := VEnv → (List Vl → Prop) → (VX → Prop) → Prop
/-- a source and its items, as long as nothing that is known to others changes -/
def SrcOk (A : List Nat) (S : Sto) (s : Src) (ds : List D) : Prop := ∀ A' S', Mv A S A' S' → ∀ i, s.at_ i S' = some ds[i]?
def JI (ms : IM) (F : VIM) : Prop := ∀ (h c : Nat) (S0 : Sto) (A0 A : List Nat) (ρ : Ev) (S : Sto) (env : VEnv) (Q : List Vl → Prop) (E : VX → Prop), VI h c S0 A0 A ρ S env → F env Q E →
  WX' (ms ρ S) (fun s S' => Adv h c S S' ∧ ∃ vs ds, SrcOk A S' s ds ∧ RVs h A S' vs ds ∧ Q vs) (fun e S' => Adv h c S S' ∧ ∃ x, RXx h A S' x e ∧ E x)
def chars (z : Str) : List Vl := z.cps.toList.map fun c => .str ⟨#[c]⟩
def itemsV : Vl → Option (List Vl)
  | .lst xs => some xs
  | .tup xs => some xs
  | .str z => some (chars z)
  | _ => none
def viAny (F : VM) : VIM := fun env Q E => F env (fun v => vO (itemsV v) Q) E
def intsV (lo : Int) (n : Nat) : List Vl := (List.range n).map fun (j : Nat) => .int (lo + (j : Int))
def viRg1 (F : VAM) : VIM := fun env Q E => F env (fun vs => match vs with | [.int j] => inR j = true ∧ Q (intsV 0 j.toNat) | _ => False) E
def viRg2 (F : VAM) : VIM := fun env Q E => F env (fun vs => match vs with | [.int i, .int j] => (inR i && inR j) = true ∧ Q (intsV i (j - i).toNat) | _ => False) E
def enumV (xs : List Vl) : List Vl := (xs.zipIdx).map fun p => .tup [.int (p.2 : Nat), p.1]
def viEn (F : VAM) : VIM := fun env Q E => F env (fun vs => match vs with | [.lst xs] => Q (enumV xs) | _ => False) E
def zipV (xs ys : List Vl) : List Vl := (xs.zip ys).map fun p => .tup [p.1, p.2]
def viZp (F : VAM) : VIM := fun env Q E => F env (fun vs => match vs with | [.lst xs, .lst ys] => Q (zipV xs ys) | [.tup xs, .tup ys] => Q (zipV xs ys) | _ => False) E
def viZpS (F : VAM) : VIM := fun env Q E => F env (fun vs => match vs with | [.tup xs, .tup ys] => xs.length = ys.length ∧ Q (zipV xs ys) | _ => False) E
section
variable {h c : Nat} {A A0 B : List Nat} {S S0 S' S1 : Sto} {v w : Vl} {d : D} {ρ : Ev} {env : VEnv} {m : EM} {F : VM} {ms : AM} {Fs : VAM}
theorem RVs.ofChars (z : Str) : RVs h A S (chars z) (signs z) := by
  unfold chars signs
  induction z.cps.toList with
  | nil => exact .nil
  | cons c l ih => exact .cons (by simp only [RV]) ih
theorem RVs.ints2 (lo : Int) (n : Nat) : RVs h A S (intsV lo n) ((List.range n).map fun (j : Nat) => D.int (lo + (j : Int))) := by
  unfold intsV
  induction List.range n with
  | nil => exact .nil
  | cons c l ih => exact .cons (by simp only [RV]) ih
theorem i_any (j : JE m F) : JI (iAny m) (viAny F) := fun h c S0 A0 A ρ S env Q E I ff => by
  refine wx_bind ((j h c S0 A0 A ρ S env _ E I ff).mono ?_ fun _ _ z => z)
  rintro x S1 ⟨a1, v, r1, q⟩
  obtain ⟨xs, ex, q⟩ := vO_elim q
  cases v with
  | lst ys =>
    cases ex
    simp only [RV] at r1
    obtain ⟨n, ds, rfl, hn, e, r⟩ := r1
    have es : seqAt S1 n = some ds := by unfold seqAt; rw [e]
    show WX' (if (seqAt S1 n).isSome = true then _ else _) _ _
    rw [es]
    exact ⟨a1, _, ds, fun A' S' mv i => by
      obtain ⟨_, b⟩ := mv n _ hn e
      unfold Src.at_ seqAt
      simp only [b, Option.map_some], r, q⟩
  | tup ys =>
    cases ex
    simp only [RV] at r1
    obtain ⟨ds, rfl, r⟩ := r1
    exact ⟨a1, _, ds, fun A' S' mv i => rfl, r, q⟩
  | str z =>
    cases ex
    simp only [RV] at r1
    subst r1
    exact ⟨a1, _, signs z, fun A' S' mv i => at_str i, .ofChars z, q⟩
  | _ => cases ex
theorem i_rg1 (j : JA ms Fs) : JI (iRg1 ms) (viRg1 Fs) := fun h c S0 A0 A ρ S env Q E I ff => by
  refine wx_bind ((j h c S0 A0 A ρ S env _ E I ff).mono ?_ fun _ _ z => z)
  rintro x S1 ⟨a1, v, r1, q⟩
  match v, q with
  | [.int j], ⟨hj, q⟩ =>
    simp only [RVs, RV] at r1
    obtain ⟨_, _, rfl, rfl, rfl⟩ := r1
    simp only [if_pos hj]
    exact ⟨a1, _, _, fun A' S' mv i => at_rng i, .ints2 0 _, q⟩
theorem i_rg2 (j : JA ms Fs) : JI (iRg2 ms) (viRg2 Fs) := fun h c S0 A0 A ρ S env Q E I ff => by
  refine wx_bind ((j h c S0 A0 A ρ S env _ E I ff).mono ?_ fun _ _ z => z)
  rintro x S1 ⟨a1, v, r1, q⟩
  match v, q with
  | [.int i, .int j], ⟨hj, q⟩ =>
    simp only [RVs, RV] at r1
    obtain ⟨_, _, rfl, rfl, _, _, rfl, rfl, rfl⟩ := r1
    simp only [if_pos hj]
    exact ⟨a1, _, _, fun A' S' mv i => at_rng i, .ints2 i _, q⟩
theorem RVs.enum : ∀ {xs : List Vl} {ds : List D} (k : Nat), RVs h A S xs ds → RVs h A S ((xs.zipIdx k).map fun p => .tup [.int (p.2 : Nat), p.1]) ((ds.zipIdx k).map fun p => .tup [.int (p.2 : Nat), p.1])
  | [], ds, k, r => by simp only [RVs] at r; subst r; exact .nil
  | x :: xs, ds, k, r => by
    simp only [RVs] at r
    obtain ⟨d, q, rfl, a, b⟩ := r
    exact .cons (by simp only [RV, RVs]; exact ⟨_, rfl, _, _, rfl, rfl, _, _, rfl, a, rfl⟩) (RVs.enum (k + 1) b)
theorem at_enum {n : Nat} {ds : List D} {S : Sto} (e : seqAt S n = some ds) (i : Nat) : (Src.enL n).at_ i S = some ((ds.zipIdx).map fun p => D.tup [.int (p.2 : Nat), p.1])[i]? := by
  unfold Src.at_
  simp only [e, Option.map_some, List.getElem?_map, List.getElem?_zipIdx, Option.map_map]
  cases ds[i]? <;> simp
theorem i_en (j : JA ms Fs) : JI (iEn ms) (viEn Fs) := fun h c S0 A0 A ρ S env Q E I ff => by
  refine wx_bind ((j h c S0 A0 A ρ S env _ E I ff).mono ?_ fun _ _ z => z)
  rintro x S1 ⟨a1, v, r1, q⟩
  match v, q with
  | [.lst xs], q =>
    simp only [RVs, RV] at r1
    obtain ⟨_, _, rfl, ⟨n, ds, rfl, hn, e, r⟩, rfl⟩ := r1
    have es : seqAt S1 n = some ds := by unfold seqAt; rw [e]
    show WX' (if (seqAt S1 n).isSome = true then _ else _) _ _
    rw [es]
    exact ⟨a1, _, _, fun A' S' mv i => by
      obtain ⟨_, b⟩ := mv n _ hn e
      exact at_enum (by unfold seqAt; rw [b]) i, .enum 0 r, q⟩
theorem RVs.zip : ∀ {xs ys : List Vl} {ds es : List D}, RVs h A S xs ds → RVs h A S ys es → RVs h A S (zipV xs ys) ((ds.zip es).map fun p => .tup [p.1, p.2])
  | [], ys, ds, es, r, q => by simp only [RVs] at r; subst r; exact .nil
  | x :: xs, [], ds, es, r, q => by simp only [RVs] at q; subst q; simp only [zipV, List.zip_nil_right, List.map_nil]; exact .nil
  | x :: xs, y :: ys, ds, es, r, q => by
    simp only [RVs] at r q
    obtain ⟨d, _, rfl, a, b⟩ := r
    obtain ⟨e, _, rfl, a', b'⟩ := q
    exact .cons (by simp only [RV, RVs]; exact ⟨_, rfl, _, _, rfl, a, _, _, rfl, a', rfl⟩) (RVs.zip b b')
theorem zpAt_eq (ds es : List D) (i : Nat) : zpAt ds es i = ((ds.zip es).map fun p => D.tup [p.1, p.2])[i]? := by
  unfold zpAt
  rw [List.getElem?_map]
  cases e1 : ds[i]? with
  | none =>
    have : (ds.zip es)[i]? = none := by
      rw [List.getElem?_eq_none_iff] at e1 ⊢
      rw [List.length_zip]; omega
    rw [this]; rfl
  | some f =>
    cases e2 : es[i]? with
    | none =>
      have : (ds.zip es)[i]? = none := by
        rw [List.getElem?_eq_none_iff] at e2 ⊢
        rw [List.length_zip]; omega
      rw [this]; rfl
    | some w =>
      have : (ds.zip es)[i]? = some (f, w) := List.getElem?_zip_eq_some.mpr ⟨e1, e2⟩
      rw [this]; rfl
theorem i_zp (j : JA ms Fs) : JI (iZp ms) (viZp Fs) := fun h c S0 A0 A ρ S env Q E I ff => by
  refine wx_bind ((j h c S0 A0 A ρ S env _ E I ff).mono ?_ fun _ _ z => z)
  rintro x S1 ⟨a1, v, r1, q⟩
  match v, q with
  | [.lst xs, .lst ys], q =>
    simp only [RVs, RV] at r1
    obtain ⟨_, _, rfl, ⟨n, ds, rfl, hn, e, r⟩, _, _, rfl, ⟨n2, ds2, rfl, hn2, e2, r2⟩, rfl⟩ := r1
    have es : seqAt S1 n = some ds := by unfold seqAt; rw [e]
    have es2 : seqAt S1 n2 = some ds2 := by unfold seqAt; rw [e2]
    show WX' (if ((seqAt S1 n).isSome && (seqAt S1 n2).isSome) = true then _ else _) _ _
    rw [es, es2]
    exact ⟨a1, _, _, fun A' S' mv i => by
      obtain ⟨_, b⟩ := mv n _ hn e
      obtain ⟨_, b2⟩ := mv n2 _ hn2 e2
      unfold Src.at_ seqAt
      simp only [b, b2, Option.bind_some, Option.map_some, zpAt_eq], .zip r r2, q⟩
  | [.tup xs, .tup ys], q =>
    simp only [RVs, RV] at r1
    obtain ⟨_, _, rfl, ⟨ds, rfl, r⟩, _, _, rfl, ⟨ds2, rfl, r2⟩, rfl⟩ := r1
    exact ⟨a1, _, _, fun A' S' mv i => by
      unfold Src.at_
      simp only [zpAt_eq], .zip r r2, q⟩
theorem i_zpS (j : JA ms Fs) : JI (iZpS ms) (viZpS Fs) := fun h c S0 A0 A ρ S env Q E I ff => by
  refine wx_bind ((j h c S0 A0 A ρ S env _ E I ff).mono ?_ fun _ _ z => z)
  rintro x S1 ⟨a1, v, r1, q⟩
  match v, q with
  | [.tup xs, .tup ys], ⟨hl, q⟩ =>
    simp only [RVs, RV] at r1
    obtain ⟨_, _, rfl, ⟨ds, rfl, r⟩, _, _, rfl, ⟨ds2, rfl, r2⟩, rfl⟩ := r1
    have hl' : ds.length = ds2.length := by rw [r.len, r2.len, hl]
    simp only [if_pos hl']
    exact ⟨a1, _, _, fun A' S' mv i => by
      unfold Src.at_
      simp only [zpAt_eq], .zip r r2, q⟩
end

/-! ### for -/
def vLoop (t : Tg) (b : VSM) : List Vl → VSM
  | [], env, P => P.nx env
  | v :: vs, env, P => vO (t.putV v env) fun env1 => b env1 { P with nx := fun e => vLoop t b vs e P, ct := fun e => vLoop t b vs e P, bk := P.nx }
def vFor (s : VIM) (t : Tg) (b : VSM) : VSM := fun env P => s env (fun vs => vs.length < 2 ^ 24 ∧ vLoop t b vs env P) (fun x => P.ex x env)
theorem s_for {fr : Bool} {ms : IM} {Fi : VIM} {t : Tg} {b : SM} {G : VSM} (ji : JI ms Fi) (jb : JS fr b G) : JS fr (sFor ms t b) (vFor Fi t G) := fun h c S0 A0 A ρ S env P I f => by
  refine wsx_of ((ji h c S0 A0 A ρ S env _ _ I f).mono ?_ fun e S' ⟨a, z⟩ => VQ.exn I a z)
  rintro s S1 ⟨a1, vs, ds, sok, r1, hl, q⟩
  have I1 := I.go a1
  have m1 := I.mvA a1
  refine ws_loopF ds (fun i ρ' S' => ∃ A' env', VI h c S0 A0 A' ρ' S' env' ∧ Mv A S1 A' S' ∧ vLoop t G (vs.drop i) env' P) ?_ ?_ ?_ FUEL 0 ρ S1 ⟨A, env, I1, Mv.refl, q⟩ (Nat.zero_le _) (by unfold FUEL; rw [r1.len]; omega)
  · rintro i ρ' S' ⟨A', env', I', mv, _⟩
    exact sok A' S' mv i
  · rintro i ρ' S' d ⟨A', env', I', mv, q'⟩ hd
    obtain ⟨v, hv, rv⟩ := r1.getD hd
    have e : vs.drop i = v :: vs.drop (i + 1) := by
      rw [List.drop_eq_getElem_cons (List.getElem?_eq_some_iff.mp hv).1, (List.getElem?_eq_some_iff.mp hv).2]
    rw [e] at q'
    unfold vLoop at q'
    obtain ⟨env1, e1, q'⟩ := vO_elim q'
    obtain ⟨ρ1, e2, I2⟩ := t.putV_ok I' (RV.mv mv rv) e1
    refine ⟨ρ1, e2, WS.mono (jb h c S0 A0 A' ρ1 S' env1 _ I2 q') ?_ ?_ ?_ ?_ ?_⟩
    · rintro ρ2 S2 ⟨A2, env2, I3, m3, q3⟩
      exact ⟨A2, env2, I3, mv.trans m3, q3⟩
    · exact fun _ _ z => z
    · rintro ρ2 S2 ⟨A2, env2, I3, m3, q3⟩
      exact ⟨A2, env2, I3, (m1.trans mv).trans m3, q3⟩
    · rintro ρ2 S2 ⟨A2, env2, I3, m3, q3⟩
      exact ⟨A2, env2, I3, mv.trans m3, q3⟩
    · rintro e ρ2 S2 ⟨A2, env2, I3, m3, q3⟩
      exact ⟨A2, env2, I3, (m1.trans mv).trans m3, q3⟩
  · rintro ρ' S' ⟨A', env', I', mv, q'⟩
    rw [r1.len, List.drop_length] at q'
    exact ⟨A', env', I', m1.trans mv, q'⟩

/-! ### while -/
def vWh (t : VTM) (b : VSM) : Nat → VSM
  | 0, _, _ => False
  | f + 1, env, P => t env (fun k => if k = true then b env { P with nx := fun e => vWh t b f e P, ct := fun e => vWh t b f e P, bk := P.nx } else P.nx env) (fun x => P.ex x env)
def vWhile (t : VTM) (b : VSM) : VSM := fun env P => ∃ f, f ≤ FUEL ∧ vWh t b f env P
theorem wh_go {fr : Bool} {t : TM} {Ft : VTM} {b : SM} {G : VSM} {h c : Nat} {S0 : Sto} {A0 : List Nat} {P : VP} (jt : JT t Ft) (jb : JS fr b G) : ∀ (f g : Nat), f ≤ g → ∀ (A : List Nat) (ρ : Ev) (S : Sto) (env : VEnv), VI h c S0 A0 A ρ S env → vWh Ft G f env P → WS (loopW t b g ρ S) (VQ fr h c S0 A0 A S P)
  | 0, _, _, _, _, _, _, _, q => q.elim
  | f + 1, 0, hg, _, _, _, _, _, _ => by omega
  | f + 1, g + 1, hg, A, ρ, S, env, I, q => by
    unfold loopW
    unfold vWh at q
    refine wsx_of ((jt h c S0 A0 A ρ S env _ _ I q).mono ?_ fun e S' ⟨a, z⟩ => VQ.exn I a z)
    rintro k S1 ⟨a1, q⟩
    cases k with
    | false => exact VQ.nxt (I.go a1) (I.mvA a1) q
    | true =>
      simp only [if_true] at q ⊢
      have x := jb h c S0 A0 A ρ S1 env _ (I.go a1) q
      cases eb : b ρ S1 with
      | stk => rw [eb] at x; exact x
      | nx ρ' S' =>
        rw [eb] at x
        obtain ⟨A', env', I', mv, q'⟩ := x
        exact VQ.from ((I.mvA a1).trans mv) (wh_go jt jb f g (by omega) A' ρ' S' env' I' q')
      | ct ρ' S' =>
        rw [eb] at x
        obtain ⟨A', env', I', mv, q'⟩ := x
        exact VQ.from ((I.mvA a1).trans mv) (wh_go jt jb f g (by omega) A' ρ' S' env' I' q')
      | bk ρ' S' =>
        rw [eb] at x
        obtain ⟨A', env', I', mv, q'⟩ := x
        exact ⟨A', env', I', (I.mvA a1).trans mv, q'⟩
      | rt d S' => rw [eb] at x; exact x
      | ex e ρ' S' =>
        rw [eb] at x
        obtain ⟨A', env', I', mv, q'⟩ := x
        exact ⟨A', env', I', (I.mvA a1).trans mv, q'⟩
theorem s_while {fr : Bool} {t : TM} {Ft : VTM} {b : SM} {G : VSM} (jt : JT t Ft) (jb : JS fr b G) : JS fr (sWhile t b) (vWhile Ft G) := fun h c S0 A0 A ρ S env P I ⟨f, hf, q⟩ => wh_go jt jb f FUEL hf A ρ S env I q

/-! ### comprehensions -/
def wipeV (env : VEnv) : List Nat → VEnv
  | [] => env
  | v :: vs => (wipeV env vs).set v none
def vLcG (t : Tg) (k : VTM) (el : VM) (env : VEnv) : List Vl → List Vl → (List Vl → Prop) → Prop
  | [], acc, Q => Q acc
  | v :: vs, acc, Q => vO (t.putV v env) fun env1 => k env1 (fun b => if b = true then el env1 (fun y => vLcG t k el env vs (acc ++ [y]) Q) (fun _ => False) else vLcG t k el env vs acc Q) (fun _ => False)
def vLc (s : VIM) (t : Tg) (k : VTM) (el : VM) (sl : List Nat) : VM := fun env Q E => s env (fun vs => vs.length < 2 ^ 24 ∧ vLcG t k el (wipeV env sl) vs [] (fun xs => Q (.lst xs))) E
theorem VI.wipe {h c : Nat} {S0 : Sto} {A0 A : List Nat} {ρ : Ev} {S : Sto} {env : VEnv} (I : VI h c S0 A0 A ρ S env) : ∀ sl : List Nat, VI h c S0 A0 A (wipeE ρ sl) S (wipeV env sl)
  | [] => I
  | v :: vs => (VI.wipe I vs).drop v none
theorem f_lc {ms : IM} {Fi : VIM} {t : Tg} {k : TM} {Fk : VTM} {el : EM} {Fe : VM} {sl : List Nat} (ji : JI ms Fi) (jk : JT k Fk) (je : JE el Fe) : JF (mLc ms t k el sl) (vLc Fi t Fk Fe sl) := fun h c S0 A0 A ρ S env Q E I f => by
  refine wx_bind ((ji h c S0 A0 A ρ S env _ E I f).mono ?_ fun _ _ z => z)
  rintro s S1 ⟨a1, vs, ds, sok, r1, hl, q⟩
  have I1 := I.go a1
  have ap : Adv h c S1 (S1 ++ [.lst []]) := push_hand a1.1
  have hlen : S1.length < (S1 ++ [Cell.lst []]).length := by simp
  obtain ⟨IA, mA, _⟩ := (I1.wipe sl).resv ap (Nat.le_refl _) hlen
  have ne : ∀ (j : Nat) (u : Vl) (n : Nat), (wipeV env sl)[j]? = some (some (VS.ow u)) → (wipeE ρ sl)[j]? = some (some (D.ref n)) → n ≠ S1.length := fun j u n e e' z => by
    obtain ⟨k, x, y, _, _⟩ := (I1.wipe sl).ow j u e
    rw [e'] at x
    cases x
    have := I1.lt _ y
    omega
  have hl0 : S0.length ≤ S1.length := I1.adv.2.1
  -- wp_loopC wants no exceptions
  have main : WP (loopC s t k el (wipeE ρ sl) S1.length FUEL 0 (S1 ++ [.lst []])) fun d S' => Adv h c S S' ∧ ∃ v, FV h A S S' v d ∧ Q v := by
    refine wp_loopC ds (fun i acc S' => ∃ va, RVs h (S1.length :: A) S' va acc ∧ acc.length ≤ i ∧ S'[S1.length]? = some (.lst acc) ∧ VI h c S0 A0 (S1.length :: A) (wipeE ρ sl) S' (wipeV env sl) ∧ Mv A S1 (S1.length :: A) S' ∧ Adv h c S1 S' ∧ vLcG t Fk Fe (wipeV env sl) (vs.drop i) va (fun xs => Q (.lst xs))) ?_ ?_ (by rw [r1.len]; exact hl) ?_ FUEL 0 [] _ ⟨[], .nil, Nat.le_refl _, by simp, IA, mA, ap, q⟩ (Nat.zero_le _) (by unfold FUEL; rw [r1.len]; omega)
    · rintro i acc S' ⟨va, ra, hacc, e, I', mv, av, _⟩
      exact ⟨sok _ S' mv i, hacc⟩
    · rintro i acc S' d ⟨va, ra, hacc, e, I', mv, av, q'⟩ hd
      obtain ⟨v, hv, rv⟩ := r1.getD hd
      have ed : vs.drop i = v :: vs.drop (i + 1) := by
        rw [List.drop_eq_getElem_cons (List.getElem?_eq_some_iff.mp hv).1, (List.getElem?_eq_some_iff.mp hv).2]
      rw [ed] at q'
      unfold vLcG at q'
      obtain ⟨env1, e1, q'⟩ := vO_elim q'
      obtain ⟨ρ1, e2, I2⟩ := t.putV_ok I' (RV.mv mv rv) e1
      refine ⟨ρ1, e2, ?_⟩
      have fresh : S1.length ∉ [h, c] := I1.ctx.fresh _ (Nat.le_refl _)
      have up : ∀ {S2 : Sto} {va' : List Vl} {acc' : List D}, Adv h c S' S2 → S2[S1.length]? = some (.lst acc') → True := fun _ _ => trivial
      have x := jk h c S0 A0 _ ρ1 S' env1 _ (fun _ => False) I2 q'
      cases ek : k ρ1 S' with
      | stk => rw [ek] at x; exact x
      | ex e S2 => rw [ek] at x; obtain ⟨_, _, _, z⟩ := x; exact z.elim
      | ok b S2 =>
        rw [ek] at x
        obtain ⟨a2, x⟩ := x
        have e2' := a2.2.at_ fresh e
        have I3 := I'.go a2
        have mv3 : Mv A S1 (S1.length :: A) S2 := mv.trans (I'.mvA a2)
        have ra3 := I'.ctx.rvs a2 ra
        constructor
        · intro hb
          subst hb
          simp only [if_true] at x
          have y := je h c S0 A0 _ ρ1 S2 env1 _ (fun _ => False) (I2.go a2) x
          cases ee : el ρ1 S2 with
          | stk => rw [ee] at y; exact y
          | ex e S3 => rw [ee] at y; obtain ⟨_, _, _, z⟩ := y; exact z.elim
          | ok yv S3 =>
            rw [ee] at y
            obtain ⟨a3, w, rw', y⟩ := y
            have e3 := a3.2.at_ fresh e2'
            refine ⟨e3, ?_⟩
            have I4 := I3.go a3
            have mv4 : Mv A S1 (S1.length :: A) S3 := mv3.trans (I3.mvA a3)
            have ra4 := I3.ctx.rvs a3 ra3
            have st : Stp (S1.length :: A) S3 (S3.set S1.length (.lst (acc ++ [yv]))) := .set List.mem_cons_self
            have av3 : Adv h c S1 S3 := (av.trans a2).trans a3
            have av4 : Adv h c S1 (S3.set S1.length (.lst (acc ++ [yv]))) := by
              refine ⟨?_, av3.2.new (Nat.le_refl _)⟩
              obtain ⟨hne, ns, mm, dd, hl', f1, f2⟩ := av3.1
              have o1 : S1.length ≠ h := fun z => fresh (by simp [z])
              have o2 : S1.length ≠ c := fun z => fresh (by simp [z])
              exact ⟨hne, ns, mm, dd, hl', by rw [List.getElem?_set_ne o1]; exact f1, by rw [List.getElem?_set_ne o2]; exact f2⟩
            refine ⟨va ++ [w], RVs.mv (Mv.stp st) (ra4.app (.cons rw' .nil)), by rw [List.length_append]; simp; omega, List.getElem?_set_self (List.getElem?_eq_some_iff.mp e3).1, ?_, mv4.trans (Mv.stp st), av4, y⟩
            refine { h0 := I4.h0, adv := ?_, hA := I4.hA, cA := I4.cA, lt0 := I4.lt0, sub := I4.sub, lt := fun n hn => by simpa using I4.lt n hn, new := I4.new, len := I4.len, sh := fun j u e => ?_, ow := fun j u e => ?_, inj := I4.inj }
            · exact I1.adv.trans av4
            · obtain ⟨d', x1, x2⟩ := I4.sh j u e
              exact ⟨d', x1, RV.mv (Mv.stp st) x2⟩
            · obtain ⟨n, x1, x2, x3, x4⟩ := I4.ow j u e
              exact ⟨n, x1, x2, x3, RO.mv (Mv.stp st) (fun z ez => by rw [List.getElem?_set_ne (Ne.symm (ne j u n e x1))]; exact ez) x4⟩
        · intro hb
          subst hb
          simp only [Bool.false_eq_true, if_false] at x
          exact ⟨va, ra3, by omega, e2', I3, mv3, av.trans a2, x⟩
    · rintro acc S' ⟨va, ra, _, e, I', mv, av, q'⟩
      rw [r1.len, List.drop_length] at q'
      exact ⟨a1.trans av, .lst va, .inr ⟨S1.length, rfl, a1.2.1, acc, e, ra⟩, q'⟩
  cases er : loopC s t k el (wipeE ρ sl) S1.length FUEL 0 (S1 ++ [.lst []]) with
  | stk => rw [er] at main; exact main
  | ok d S' => rw [er] at main; exact main
  | ex e S' => rw [er] at main; exact (show False from main).elim
end DL

/-! the V-layer: objects that a slot owns, methods, defs, draws -/
namespace DL
open PySem L2
section
variable {fr : Bool} {m me mi mo : EM} {F Fe Fi Fo : VM} {ms : AM} {Fs : VAM}
variable {h c : Nat} {A A0 B : List Nat} {S S0 S' S1 : Sto} {v w : Vl} {d : D} {ρ : Ev} {env : VEnv}
/-! ### xs.append(e), xs.extend(e), xs.pop(), xs[i] = e -/
def ownL (env : VEnv) (i : Nat) : Option (List Vl) := match env[i]? with
  | some (some (.ow (.lst xs))) => some xs
  | _ => none
theorem ownL_eq {i : Nat} {xs : List Vl} (e : ownL env i = some xs) : env[i]? = some (some (VS.ow (.lst xs))) := by
  unfold ownL at e
  split at e
  · cases e; assumption
  · cases e
def vApp (i : Nat) (F : VM) : VSM := fun env P => vO (ownL env i) fun xs => F env (fun v => xs.length < sizeLine ∧ P.nx (env.set i (some (.ow (.lst (xs ++ [v])))))) (fun x => P.ex x env)
theorem s_app (i : Nat) (j : JE m F) : JS fr (sDrop (mMt .lst dAppend (mVar i) (aCons m aNil))) (vApp i F) := fun h c S0 A0 A ρ S env P I f => by
  obtain ⟨xs, ex, f⟩ := vO_elim f
  have e := ownL_eq ex
  obtain ⟨n, en, hn, hl, ds, ed, r⟩ := I.ow i _ e
  unfold sDrop mMt mVar
  rw [en]
  simp only [bind_ok, if_pos (rc_lst ed)]
  refine wsx_of (wx_bind (wx_bind ((j h c S0 A0 A ρ S env _ _ I f).mono ?_ fun e S' ⟨a, z⟩ => VQ.exn I a z)))
  rintro y S1 ⟨a1, v, r1, hz, q⟩
  have I1 := I.go a1
  have ed1 := a1.2.at_ (I.ne hl) ed
  have r' := I.ctx.rvs a1 r
  have e2 : dAppend (.ref n) [y] S1 = some (.non, S1.set n (.lst (ds ++ [y]))) := by
    unfold dAppend
    simp only [ed1]
    rw [if_pos (by rw [r'.len]; exact hz)]
  simp only [r_Nil, bind_ok]
  refine wx_ofO e2 ?_
  have st : Stp A S1 (S1.set n (.lst (ds ++ [y]))) := .set hn
  obtain ⟨I2, mv⟩ := I1.upd (w := .lst (xs ++ [v])) (x := .lst (ds ++ [y])) e en ⟨_, List.getElem?_set_self (List.getElem?_eq_some_iff.mp ed1).1, RVs.mv (Mv.stp st) (r'.app (.cons r1 .nil))⟩
  exact VQ.nxt I2 ((I.mvA a1).trans mv) q
def vExt (i : Nat) (F : VM) : VSM := fun env P => vO (ownL env i) fun xs => F env (fun v => match v with | .lst ys => xs.length + ys.length ≤ sizeLine ∧ P.nx (env.set i (some (.ow (.lst (xs ++ ys))))) | _ => False) (fun x => P.ex x env)
theorem s_ext (i : Nat) (j : JE m F) : JS fr (sDrop (mMt .lst dExtend (mVar i) (aCons m aNil))) (vExt i F) := fun h c S0 A0 A ρ S env P I f => by
  obtain ⟨xs, ex, f⟩ := vO_elim f
  have e := ownL_eq ex
  obtain ⟨n, en, hn, hl, ds, ed, r⟩ := I.ow i _ e
  unfold sDrop mMt mVar
  rw [en]
  simp only [bind_ok, if_pos (rc_lst ed)]
  refine wsx_of (wx_bind (wx_bind ((j h c S0 A0 A ρ S env _ _ I f).mono ?_ fun e S' ⟨a, z⟩ => VQ.exn I a z)))
  rintro y S1 ⟨a1, v, r1, q⟩
  match v, q, r1 with
  | .lst ys, ⟨hz, q⟩, r1 =>
    simp only [RV] at r1
    obtain ⟨k, es, rfl, hk, ek, rk⟩ := r1
    have I1 := I.go a1
    have ed1 := a1.2.at_ (I.ne hl) ed
    have r' := I.ctx.rvs a1 r
    have e2 : dExtend (.ref n) [.ref k] S1 = some (.non, S1.set n (.lst (ds ++ es))) := by
      unfold dExtend
      simp only [ed1, ek]
      rw [if_pos (by rw [r'.len, rk.len]; exact hz)]
    simp only [r_Nil, bind_ok]
    refine wx_ofO e2 ?_
    have st : Stp A S1 (S1.set n (.lst (ds ++ es))) := .set hn
    obtain ⟨I2, mv⟩ := I1.upd (w := .lst (xs ++ ys)) (x := .lst (ds ++ es)) e en ⟨_, List.getElem?_set_self (List.getElem?_eq_some_iff.mp ed1).1, RVs.mv (Mv.stp st) (r'.app rk)⟩
    exact VQ.nxt I2 ((I.mvA a1).trans mv) q
theorem pop_eq {n : Nat} {xs : List Vl} {ds : List D} (ed : S[n]? = some (.lst ds)) (r : RVs h A S xs ds) {x : Vl} (hx : xs.getLast? = some x) : ∃ y, dPop (.ref n) [] S = some (y, S.set n (.lst ds.dropLast)) ∧ RV h A S x y := by
  rw [List.getLast?_eq_getElem?] at hx
  obtain ⟨y, ey, ry⟩ := r.get hx
  refine ⟨y, ?_, ry⟩
  unfold dPop
  simp only [ed, r.len, ey, Option.map_some]
/-- x = xs.pop() -/
def vPop (j i : Nat) : VSM := fun env P => vO (ownL env i) fun xs => vO xs.getLast? fun x => P.nx ((env.set i (some (.ow (.lst xs.dropLast)))).set j (some (.sh x)))
theorem s_pop (j i : Nat) (hij : i ≠ j) : JS fr (sSet j (mMt .lst dPop (mVar i) aNil)) (vPop j i) := fun h c S0 A0 A ρ S env P I f => by
  obtain ⟨xs, ex, f⟩ := vO_elim f
  obtain ⟨x, hx, f⟩ := vO_elim f
  have e := ownL_eq ex
  obtain ⟨n, en, hn, hl, ds, ed, r⟩ := I.ow i _ e
  obtain ⟨y, ey, ry⟩ := pop_eq ed r hx
  unfold sSet mMt mVar
  rw [en]
  simp only [bind_ok, if_pos (rc_lst ed), r_Nil, ey, ofO_some, bindS_ok]
  have st : Stp A S (S.set n (.lst ds.dropLast)) := .set hn
  obtain ⟨I2, mv⟩ := I.upd (w := .lst xs.dropLast) (x := .lst ds.dropLast) e en ⟨_, List.getElem?_set_self (List.getElem?_eq_some_iff.mp ed).1, RVs.mv (Mv.stp st) r.dropLast⟩
  exact VQ.nxt (I2.put j (RV.mv (Mv.stp st) ry)) mv f
/-- xs.pop() -/
def vPopD (i : Nat) : VSM := fun env P => vO (ownL env i) fun xs => vO xs.getLast? fun x => P.nx (env.set i (some (.ow (.lst xs.dropLast))))
theorem s_popD (i : Nat) : JS fr (sDrop (mMt .lst dPop (mVar i) aNil)) (vPopD i) := fun h c S0 A0 A ρ S env P I f => by
  obtain ⟨xs, ex, f⟩ := vO_elim f
  obtain ⟨x, hx, f⟩ := vO_elim f
  have e := ownL_eq ex
  obtain ⟨n, en, hn, hl, ds, ed, r⟩ := I.ow i _ e
  obtain ⟨y, ey, ry⟩ := pop_eq ed r hx
  unfold sDrop mMt mVar
  rw [en]
  simp only [bind_ok, if_pos (rc_lst ed), r_Nil, ey, ofO_some, bindS_ok]
  have st : Stp A S (S.set n (.lst ds.dropLast)) := .set hn
  obtain ⟨I2, mv⟩ := I.upd (w := .lst xs.dropLast) (x := .lst ds.dropLast) e en ⟨_, List.getElem?_set_self (List.getElem?_eq_some_iff.mp ed).1, RVs.mv (Mv.stp st) r.dropLast⟩
  exact VQ.nxt I2 mv f
/-! dicts by keys -/
def putKV (kvs : List (Vl × Vl)) (k v : Vl) : List (Vl × Vl) :=
  if (kvs.any fun p => decide (kOf p.1 = kOf k)) = true then kvs.map (fun p => if kOf p.1 = kOf k then (p.1, v) else p) else kvs ++ [(k, v)]
theorem RVk.keys : ∀ {kvs : List (Vl × Vl)} {ds : List (Key × D)}, RVk h A S kvs ds → kvs.map (fun p => kOf p.1) = ds.map fun p => some p.1
  | [], ds, r => by simp only [RVk] at r; subst r; rfl
  | (k, v) :: vs, ds, r => by
    simp only [RVk] at r
    obtain ⟨kk, d, q, rfl, ek, a, b⟩ := r
    simp only [List.map_cons, ek, RVk.keys b]
theorem RVk.any {key : Key} : ∀ {kvs : List (Vl × Vl)} {ds : List (Key × D)}, RVk h A S kvs ds → (kvs.any fun p => decide (kOf p.1 = some key)) = ds.any fun p => decide (p.1 = key)
  | [], ds, r => by simp only [RVk] at r; subst r; rfl
  | (k0, v) :: vs, ds, r => by
    simp only [RVk] at r
    obtain ⟨kk, d, q, rfl, ek', a, b⟩ := r
    simp only [List.any_cons, RVk.any b, ek', Option.some.injEq]
theorem RVk.repl {v : Vl} {key : Key} {d : D} (rv : RV h A S v d) : ∀ {kvs : List (Vl × Vl)} {ds : List (Key × D)}, RVk h A S kvs ds →
    RVk h A S (kvs.map fun p => if kOf p.1 = some key then (p.1, v) else p) (ds.map fun kv => if kv.1 = key then (kv.1, d) else kv)
  | [], ds, r => by simp only [RVk] at r; subst r; simp only [List.map_nil, RVk]
  | (k0, v0) :: vs, ds, r => by
    simp only [RVk] at r
    obtain ⟨kk, d0, q, rfl, ek', a, b⟩ := r
    simp only [List.map_cons]
    have ih := RVk.repl (key := key) rv b
    by_cases z : kk = key
    · subst z
      rw [if_pos ek', if_pos rfl]
      simp only [RVk]
      exact ⟨kk, d, _, rfl, ek', rv, ih⟩
    · have : ¬ kOf k0 = some key := by rw [ek']; simpa using z
      rw [if_neg this, if_neg z]
      simp only [RVk]
      exact ⟨kk, d0, _, rfl, ek', a, ih⟩
theorem RVk.app : ∀ {a b : List (Vl × Vl)} {ds es : List (Key × D)}, RVk h A S a ds → RVk h A S b es → RVk h A S (a ++ b) (ds ++ es)
  | [], b, ds, es, r, q => by simp only [RVk] at r; subst r; exact q
  | (k, v) :: a, b, ds, es, r, q => by
    simp only [RVk] at r
    obtain ⟨kk, d, t, rfl, ek, x, y⟩ := r
    simp only [List.cons_append, RVk]
    exact ⟨kk, d, _, rfl, ek, x, RVk.app y q⟩
theorem RVk.put {k v : Vl} {key : Key} {d : D} (ek : kOf k = some key) (rv : RV h A S v d) {kvs : List (Vl × Vl)} {ds : List (Key × D)} (r : RVk h A S kvs ds) : RVk h A S (putKV kvs k v) (putD ds key d) := by
  unfold putKV putD
  rw [ek, r.any]
  split
  · exact r.repl rv
  · exact r.app (by simp only [RVk]; exact ⟨key, d, [], rfl, ek, rv, rfl⟩)
theorem kOf_rd {k : Vl} {key : Key} {d : D} (ek : kOf k = some key) (r : LK h c A S k d) : keyD d = some key := by
  cases k <;> simp only [kOf, Option.some.injEq] at ek <;> first | cases ek | skip
  all_goals (have q := r.flat rfl; simp only [RV] at q; subst q; rfl)
def getKV (kvs : List (Vl × Vl)) (k : Vl) : Option Vl := (kvs.find? fun p => decide (kOf p.1 = kOf k)).map (·.2)
theorem RVk.val {k : Vl} {key : Key} (ek : kOf k = some key) {w : Vl} : ∀ {kvs : List (Vl × Vl)} {ds : List (Key × D)}, RVk h A S kvs ds → getKV kvs k = some w → ∃ d, valD ds key = some d ∧ RV h A S w d
  | [], ds, r, e => by simp [getKV] at e
  | (k0, v0) :: vs, ds, r, e => by
    simp only [RVk] at r
    obtain ⟨kk, d0, q, rfl, ek', a, b⟩ := r
    by_cases z : kk = key
    · subst z
      have : getKV ((k0, v0) :: vs) k = some v0 := by simp [getKV, List.find?_cons, ek', ek]
      rw [this] at e; cases e
      exact ⟨d0, by simp [valD, List.find?_cons], a⟩
    · have h1 : getKV ((k0, v0) :: vs) k = getKV vs k := by simp [getKV, List.find?_cons, ek', ek, z]
      rw [h1] at e
      obtain ⟨d, x, y⟩ := RVk.val ek b e
      exact ⟨d, by simp [valD, List.find?_cons, z] at x ⊢; exact x, y⟩
def vSub (i : Nat) (Fi Fe : VM) : VSM := fun env P => match env[i]? with
  | some (some (.ow (.lst xs))) => Fe env (fun v => Fi env (fun k => match k with
    | .int j => vO (ixN xs.length j) fun n => P.nx (env.set i (some (.ow (.lst (xs.set n v)))))
    | _ => False) (fun x => P.ex x env)) (fun x => P.ex x env)
  | some (some (.ow (.dct kvs))) => Fe env (fun v => Fi env (fun k => kvs.length < sizeLine ∧ (kOf k).isSome = true ∧ P.nx (env.set i (some (.ow (.dct (putKV kvs k v)))))) (fun x => P.ex x env)) (fun x => P.ex x env)
  | _ => False
theorem s_sub (i : Nat) (ji : JP mi Fi) (je : JE me Fe) : JS fr (sSub (mVar i) mi me) (vSub i Fi Fe) := fun h c S0 A0 A ρ S env P I f => by
  unfold sSub
  have go : ∀ {n : Nat} {K : Vl → Vl → Prop}, ρ[i]? = some (some (D.ref n)) → Fe env (fun v => Fi env (fun k => K v k) (fun x => P.ex x env)) (fun x => P.ex x env) →
      (∀ y k S' v u, Adv h c S S' → RV h A S' v y → LK h c A S' u k → K v u → WS (match dSet (.ref n) k y S' with | some S4 => .nx ρ S4 | none => .stk) (VQ fr h c S0 A0 A S P)) →
      WS ((me ρ S).bindS ρ fun v S1 => (mVar i ρ S1).bindS ρ fun o S2 => (mi ρ S2).bindS ρ fun i S3 => match dSet o i v S3 with | some S4 => .nx ρ S4 | none => .stk) (VQ fr h c S0 A0 A S P) := fun {n K} en f fin => by
    refine wsx_of ((je h c S0 A0 A ρ S env _ _ I f).mono ?_ fun e S' ⟨a, z⟩ => VQ.exn I a z)
    rintro y S1 ⟨a1, v, r1, f⟩
    have I1 := I.go a1
    have em : mVar i ρ S1 = .ok (.ref n) S1 := by unfold mVar; rw [en]
    rw [em]
    show WS ((mi ρ S1).bindS ρ fun k S3 => match dSet (.ref n) k y S3 with | some S4 => .nx ρ S4 | none => .stk) _
    refine wsx_of ((ji h c S0 A0 A ρ S1 env _ _ I1 f).mono ?_ fun e S' ⟨a, z⟩ => VQ.exn I (a1.trans a) z)
    rintro k S2 ⟨a2, u, r2, q⟩
    exact fin y k S2 v u (a1.trans a2) (I1.ctx.rv a2 r1) r2 q
  unfold vSub at f
  split at f
  · rename_i xs e
    obtain ⟨n, en, hn, hl, ds, ed, r⟩ := I.ow i _ e
    refine go en f fun y k S' v u a r1 r2 q => ?_
    cases u with
    | int j =>
      have z := r2.flat rfl
      simp only [RV] at z
      subst z
      obtain ⟨t, et, q⟩ := vO_elim q
      have ed1 := a.2.at_ (I.ne hl) ed
      have r' := I.ctx.rvs a r
      have e2 : dSet (.ref n) (.int j) y S' = some (S'.set n (.lst (ds.set t y))) := by
        unfold dSet
        simp only [ed1, r'.len, et, Option.map_some]
      simp only [e2]
      have st : Stp A S' (S'.set n (.lst (ds.set t y))) := .set hn
      obtain ⟨I2, mv⟩ := (I.go a).upd (w := .lst (xs.set t v)) (x := .lst (ds.set t y)) e en ⟨_, List.getElem?_set_self (List.getElem?_eq_some_iff.mp ed1).1, RVs.mv (Mv.stp st) (r'.set t r1)⟩
      exact VQ.nxt I2 ((I.mvA a).trans mv) q
    | _ => exact q.elim
  · rename_i kvs e
    obtain ⟨n, en, hn, hl, ds, ed, r⟩ := I.ow i _ e
    refine go en f fun y k S' v u a r1 r2 q => ?_
    obtain ⟨hz, hk, q⟩ := q
    obtain ⟨key, ek⟩ := Option.isSome_iff_exists.mp hk
    have ed1 := a.2.at_ (I.ne hl) ed
    have r' : RVk h A S' kvs ds := RVk.mv (I.mvA a) r
    have e2 : dSet (.ref n) k y S' = some (S'.set n (.dct (putD ds key y))) := by
      unfold dSet
      simp only [ed1, kOf_rd ek r2, Option.bind_some]
      rw [if_pos (by rw [r'.len]; exact hz)]
    simp only [e2]
    have st : Stp A S' (S'.set n (.dct (putD ds key y))) := .set hn
    obtain ⟨I2, mv⟩ := (I.go a).upd (w := .dct (putKV kvs u v)) (x := .dct (putD ds key y)) e en ⟨_, List.getElem?_set_self (List.getElem?_eq_some_iff.mp ed1).1, RVk.mv (Mv.stp st) (r'.put ek r1)⟩
    exact VQ.nxt I2 ((I.mvA a).trans mv) q
  · exact f.elim
/-! ### methods of values -/
def MtF (f : DM) (g : Vl → List Vl → Option Vl) : Prop := ∀ (h c : Nat) (A : List Nat) (S : Sto) (x : D) (v : Vl) (xs : List D) (vs : List Vl) (r : Vl), Ctx h c A S → LK h c A S v x → LKs h c A S vs xs → g v vs = some r → ∃ d S', f x xs S = some (d, S') ∧ Stp [] S S' ∧ FV h A S S' r d
def isRc (k : Rc) (v : Vl) : Bool := match k, v with
  | .str, .str _ => true
  | .lst, .lst _ => true
  | .dct, .dct _ => true
  | _, _ => false
theorem rc_ok {k : Rc} (e : isRc k v = true) (r : LK h c A S v d) : k.is d S = true := by
  unfold isRc at e
  split at e
  · have q := r.flat rfl; simp only [RV] at q; subst q; rfl
  · obtain ⟨n, ds, rfl, e1, _⟩ := r.lst; exact rc_lst e1
  · obtain ⟨n, ds, rfl, e1, _⟩ := r.dct; unfold Rc.is; simp only [e1]
  · cases e
def vMt (k : Rc) (g : Vl → List Vl → Option Vl) (Fo : VM) (Fs : VAM) : VM := fun env Q E => Fo env (fun o => isRc k o = true ∧ Fs env (fun xs => vO (g o xs) Q) E) E
theorem f_mt {k : Rc} {f : DM} {g : Vl → List Vl → Option Vl} (o : MtF f g) (jo : JP mo Fo) (ja : JAp ms Fs) : JF (mMt k f mo ms) (vMt k g Fo Fs) := fun h c S0 A0 A ρ S env Q E I ff => by
  refine wx_bind ((jo h c S0 A0 A ρ S env _ E I ff).mono ?_ fun _ _ z => z)
  rintro x S1 ⟨a1, v, r1, hk, f1⟩
  simp only [if_pos (rc_ok hk r1)]
  refine wx_bind ((ja h c S0 A0 A ρ S1 env _ E (I.go a1) f1).mono ?_ fun e S' ⟨a, z⟩ => ⟨a1.trans a, z⟩)
  rintro xs S2 ⟨a2, vs, r2, q⟩
  obtain ⟨r, er, q⟩ := vO_elim q
  obtain ⟨d, S3, e, st, rr⟩ := o h c A S2 x v xs vs r ((I.go a1).go a2).ctx ((I.go a1).ctx.lk a2 r1) r2 er
  exact wx_ofO e ⟨(a1.trans a2).trans (a2.1.stp st), r, rr.from (a1.trans a2).2.1, q⟩
/-! ### defs -/
def startV (n : Nat) (vs : List Vl) : VEnv := (vs.map fun v => some (.sh v)) ++ List.replicate (n - vs.length) none
theorem VI.start (n : Nat) {vs : List Vl} {ds : List D} (C : Ctx h c A S) (r : RVs h A S vs ds) : VI h c S A A (startE n ds) S (startV n vs) where
  h0 := C.hand
  adv := .refl C.hand
  hA := C.hA
  cA := C.cA
  lt0 := C.lt
  sub := fun _ z => z
  lt := C.lt
  new := fun _ z => .inl z
  len := by unfold startE startV; simp [r.len]
  sh := fun i v e => by
    unfold startV at e
    unfold startE
    by_cases hi : i < vs.length
    · rw [List.getElem?_append_left (by simpa using hi), List.getElem?_map] at e
      cases q : vs[i]? with
      | none => rw [q] at e; cases e
      | some u =>
        rw [q] at e
        cases e
        obtain ⟨d, a, b⟩ := r.get q
        exact ⟨d, by rw [List.getElem?_append_left (by simpa [r.len] using hi), List.getElem?_map, a]; rfl, b⟩
    · rw [List.getElem?_append_right (by simpa using hi), List.getElem?_replicate] at e
      split at e <;> cases e
  ow := fun i v e => by
    unfold startV at e
    by_cases hi : i < vs.length
    · rw [List.getElem?_append_left (by simpa using hi), List.getElem?_map] at e
      cases q : vs[i]? with
      | none => rw [q] at e; cases e
      | some u => rw [q] at e; cases e
    · rw [List.getElem?_append_right (by simpa using hi), List.getElem?_replicate] at e
      split at e <;> cases e
  inj := fun i j u v n e1 e2 e3 e4 => by
    exfalso
    unfold startV at e1
    by_cases hi : i < vs.length
    · rw [List.getElem?_append_left (by simpa using hi), List.getElem?_map] at e1
      cases q : vs[i]? with
      | none => rw [q] at e1; cases e1
      | some u => rw [q] at e1; cases e1
    · rw [List.getElem?_append_right (by simpa using hi), List.getElem?_replicate] at e1
      split at e1 <;> cases e1
def vRun (n : Nat) (G : VSM) : VF := fun vs Q E => G (startV n vs) { nx := fun _ => Q .non, rt := Q, ex := fun x _ => E x }
theorem j_run (n : Nat) {m : SM} {G : VSM} (j : JS false m G) : JFn (runB n m) (vRun n G) := fun h c A S vs ds Q E C r f => by
  have x := j h c S A A (startE n ds) S (startV n vs) _ (VI.start n C r) f
  unfold runB
  cases e : m (startE n ds) S with
  | stk => rw [e] at x; exact x
  | nx ρ' S' =>
    rw [e] at x
    obtain ⟨A', env', I', mv, q⟩ := x
    exact ⟨I'.adv, .non, by simp only [RV], q⟩
  | rt d S' => rw [e] at x; exact x
  | bk ρ' S' => rw [e] at x; obtain ⟨A', env', I', mv, q⟩ := x; exact q.elim
  | ct ρ' S' => rw [e] at x; obtain ⟨A', env', I', mv, q⟩ := x; exact q.elim
  | ex y ρ' S' =>
    rw [e] at x
    obtain ⟨A', env', I', mv, x, rx, q⟩ := x
    exact ⟨I'.adv, x, ⟨rx.1, RVf.mv (Mv.sub I'.sub) rx.2⟩, q⟩
theorem f_run (n : Nat) {m : SM} {G : VSM} (j : JS true m G) : JFf (runB n m) (vRun n G) := fun h c A S vs ds Q E C r f => by
  have x := j h c S A A (startE n ds) S (startV n vs) _ (VI.start n C r) f
  unfold runB
  cases e : m (startE n ds) S with
  | stk => rw [e] at x; exact x
  | nx ρ' S' =>
    rw [e] at x
    obtain ⟨A', env', I', mv, q⟩ := x
    exact ⟨I'.adv, .non, .inl ⟨rfl, by simp only [RV]⟩, q⟩
  | rt d S' => rw [e] at x; exact x
  | bk ρ' S' => rw [e] at x; obtain ⟨A', env', I', mv, q⟩ := x; exact q.elim
  | ct ρ' S' => rw [e] at x; obtain ⟨A', env', I', mv, q⟩ := x; exact q.elim
  | ex y ρ' S' =>
    rw [e] at x
    obtain ⟨A', env', I', mv, x, rx, q⟩ := x
    exact ⟨I'.adv, x, ⟨rx.1, RVf.mv (Mv.sub I'.sub) rx.2⟩, q⟩
/-! ### draws -/
def vDraw : VF := fun vs Q _ => match vs with
  | [.hand, .int k] => 0 < k ∧ k < 1073741824 ∧ ∀ i : Int, 0 ≤ i → i < k → Q (.int i)
  | _ => False
theorem j_draw {a1 a2 a3 a4 a5 a6 a7 a8 a9 : Int} (ok : DrawOk a1 a2 a3 a4 a5 a6 a7 a8 a9 = true) : JFf (runB 4 (mDraw a1 a2 a3 a4 a5 a6 a7 a8 a9)) vDraw := fun h c A S vs ds Q E C r f => by
  match vs, f with
  | [.hand, .int k], ⟨h0, h1, q⟩ =>
    simp only [RVs, RV] at r
    obtain ⟨_, _, rfl, rfl, _, _, rfl, rfl, rfl⟩ := r
    have x := draw_ok ok C.hand h0 h1
    obtain ⟨d, S', e, i, rfl, i0, i1, av⟩ := x.elim
    rw [e]
    exact ⟨av, .int i, .inl ⟨rfl, by simp only [RV]⟩, q i i0 i1⟩
end
end DL

/-! the V-layer: operators, built-ins, methods of texts -/
namespace DL
open PySem L2
/-! ### as the machine's data -/
mutual
def pd : Vl → Option PyData
  | .non => some .none
  | .bl b => some (.bool b)
  | .int i => some (.int i)
  | .str x => some (.str x)
  | .tup xs => (pds xs).map .tuple
  | .lst xs => (pds xs).map .list
  | .dct kvs => (pdk kvs).map .dict
  | _ => none
def pds : List Vl → Option (List PyData)
  | [] => some []
  | v :: vs => (pd v).bind fun p => (pds vs).map fun ps => p :: ps
def pdk : List (Vl × Vl) → Option (List (PyData × PyData))
  | [] => some []
  | (k, v) :: vs => (kOf k).bind fun kk => (pd v).bind fun p => (pdk vs).map fun ps => (keyP kk, p) :: ps
end
mutual
def dep : Vl → Nat
  | .tup xs => deps xs
  | .lst xs => deps xs + 1
  | .dct kvs => depk kvs + 1
  | _ => 0
def deps : List Vl → Nat
  | [] => 0
  | v :: vs => max (dep v) (deps vs)
def depk : List (Vl × Vl) → Nat
  | [] => 0
  | (_, v) :: vs => max (dep v) (depk vs)
end
section
variable {h c : Nat} {A A0 B : List Nat} {S S0 S' S1 : Sto}
mutual
theorem RV.pd : ∀ {v : Vl} {d : D} {k : Nat} {p : PyData}, RV h A S v d → DL.pd v = some p → dep v ≤ k → toPw (gP k S) d = some p
  | .non, d, k, p, r, e, l => by simp only [RV] at r; subst r; simpa only [DL.pd, toPw] using e
  | .bl b, d, k, p, r, e, l => by simp only [RV] at r; subst r; simpa only [DL.pd, toPw] using e
  | .int b, d, k, p, r, e, l => by simp only [RV] at r; subst r; simpa only [DL.pd, toPw] using e
  | .str b, d, k, p, r, e, l => by simp only [RV] at r; subst r; simpa only [DL.pd, toPw] using e
  | .tup xs, d, k, p, r, e, l => by
    simp only [RV] at r
    obtain ⟨ds, rfl, r⟩ := r
    simp only [DL.pd] at e
    obtain ⟨ps, e1, rfl⟩ := Option.map_eq_some_iff.mp e
    simp only [toPw, RVs.pd r e1 (by simpa only [dep] using l), Option.map_some]
  | .lst xs, d, k, p, r, e, l => by
    simp only [RV] at r
    obtain ⟨n, ds, rfl, hn, en, r⟩ := r
    simp only [DL.pd] at e
    obtain ⟨ps, e1, rfl⟩ := Option.map_eq_some_iff.mp e
    simp only [dep] at l
    cases k with
    | zero => omega
    | succ k => simp only [toPw, gP, en, RVs.pd r e1 (show deps xs ≤ k by omega), Option.map_some]
  | .dct xs, d, k, p, r, e, l => by
    simp only [RV] at r
    obtain ⟨n, ds, rfl, hn, en, r⟩ := r
    simp only [DL.pd] at e
    obtain ⟨ps, e1, rfl⟩ := Option.map_eq_some_iff.mp e
    simp only [dep] at l
    cases k with
    | zero => omega
    | succ k =>
      obtain ⟨qs, e2, e3⟩ := RVk.pd r e1 (show depk xs ≤ k by omega)
      simp only [toPw, gP, en, e2, Option.map_some, e3]
  | .ins C xs, d, k, p, r, e, l => by simp only [DL.pd] at e; cases e
  | .raw C, d, k, p, r, e, l => by simp only [DL.pd] at e; cases e
  | .hand, d, k, p, r, e, l => by simp only [DL.pd] at e; cases e
  | .scr C, d, k, p, r, e, l => by simp only [DL.pd] at e; cases e
theorem RVs.pd : ∀ {vs : List Vl} {ds : List D} {k : Nat} {ps : List PyData}, RVs h A S vs ds → pds vs = some ps → deps vs ≤ k → toPws (gP k S) ds = some ps
  | [], ds, k, ps, r, e, l => by
    simp only [RVs] at r; subst r
    simpa only [pds, toPws] using e
  | v :: vs, ds, k, ps, r, e, l => by
    simp only [RVs] at r
    obtain ⟨d, q, rfl, a, b⟩ := r
    simp only [pds] at e
    obtain ⟨p, e1, e2⟩ := Option.bind_eq_some_iff.mp e
    obtain ⟨qs, e3, rfl⟩ := Option.map_eq_some_iff.mp e2
    simp only [deps] at l
    simp only [toPws, RV.pd a e1 (show dep v ≤ k by omega), RVs.pd b e3 (show deps vs ≤ k by omega), Option.bind_some, Option.map_some]
theorem RVk.pd : ∀ {vs : List (Vl × Vl)} {ds : List (Key × D)} {k : Nat} {ps : List (PyData × PyData)}, RVk h A S vs ds → pdk vs = some ps → depk vs ≤ k → ∃ qs, toPws (gP k S) (ds.map (·.2)) = some qs ∧ (ds.map fun kv => keyP kv.1).zip qs = ps
  | [], ds, k, ps, r, e, l => by
    simp only [RVk] at r; subst r
    simp only [pdk, Option.some.injEq] at e
    subst e
    exact ⟨[], by simp only [List.map_nil, toPws], rfl⟩
  | (k0, v) :: vs, ds, k, ps, r, e, l => by
    simp only [RVk] at r
    obtain ⟨kk, d, q, rfl, ek, a, b⟩ := r
    simp only [pdk, ek, Option.bind_some] at e
    obtain ⟨p, e1, e2⟩ := Option.bind_eq_some_iff.mp e
    obtain ⟨qs, e3, rfl⟩ := Option.map_eq_some_iff.mp e2
    simp only [depk] at l
    obtain ⟨ts, e4, e5⟩ := RVk.pd b e3 (show depk vs ≤ k by omega)
    exact ⟨p :: ts, by simp only [List.map_cons, toPws, RV.pd a e1 (show dep v ≤ k by omega), e4, Option.bind_some, Option.map_some], by simp only [List.map_cons, List.zip_cons_cons, e5]⟩
end
theorem LK.pd {v : Vl} {d : D} {p : PyData} (r : LK h c A S v d) (e : DL.pd v = some p) (l : dep v ≤ LEV) : toP S d = some p := by
  unfold toP
  rcases r with r | ⟨n, rfl, hn, ho, r⟩
  · exact r.pd e l
  · cases v with
    | lst xs =>
      obtain ⟨ds, en, r⟩ := r
      simp only [DL.pd] at e
      obtain ⟨ps, e1, rfl⟩ := Option.map_eq_some_iff.mp e
      simp only [dep] at l
      obtain ⟨k, hk⟩ : ∃ k, LEV = k + 1 := ⟨29, rfl⟩
      rw [hk] at l ⊢
      simp only [toPw, gP, en, RVs.pd r e1 (show deps xs ≤ k by omega), Option.map_some]
    | dct xs =>
      obtain ⟨ds, en, r⟩ := r
      simp only [DL.pd] at e
      obtain ⟨ps, e1, rfl⟩ := Option.map_eq_some_iff.mp e
      simp only [dep] at l
      obtain ⟨k, hk⟩ : ∃ k, LEV = k + 1 := ⟨29, rfl⟩
      rw [hk] at l ⊢
      obtain ⟨qs, e2, e3⟩ := RVk.pd r e1 (show depk xs ≤ k by omega)
      simp only [toPw, gP, en, e2, Option.map_some, e3]
    | ins C xs => simp only [DL.pd] at e; cases e
    | _ => exact r.elim
end

/-! ### arithmetic -/
def addV : Vl → Vl → Option Vl
  | .int i, .int j => some (.int (i + j))
  | .int i, .bl k => some (.int (i + PyProof.Rows.b2i k))
  | .str a, .str b => if a.length + b.length ≤ sizeLine then some (.str (a ++ b)) else none
  | .tup xs, .tup ys => if xs.length + ys.length ≤ sizeLine then some (.tup (xs ++ ys)) else none
  | .lst xs, .lst ys => if xs.length + ys.length ≤ sizeLine then some (.lst (xs ++ ys)) else none
  | _, _ => none
def intV (f : Int → Int → Int) (c : Int → Int → Bool) : Vl → Vl → Option Vl
  | .int i, .int j => if c i j = true then some (.int (f i j)) else none
  | _, _ => none
def subV := intV (· - ·) fun _ _ => true
def fdivV := intV Int.fdiv fun _ j => decide (j ≠ 0) && decide (j.natAbs < 1073741824)
def modV := intV Int.fmod fun _ j => decide (j ≠ 0)
def powV := intV (fun i j => i ^ j.toNat) fun i j => decide (0 ≤ j) && decide (j ≤ 1000000) && decide (i.natAbs < 2 ^ 64)
def mulV : Vl → Vl → Option Vl
  | .str z, .int k => if mulOk z k = true then some (.str (Txt.mul z k)) else none
  | .int i, .int j => if cMul i j = true then some (.int (i * j)) else none
  | .lst xs, .int k => if (decide (-(2 ^ 63) ≤ k) && decide (k < 2 ^ 63) && decide (xs.length * k.toNat ≤ sizeLine)) = true then some (.lst (List.replicate k.toNat xs).flatten) else none
  | _, _ => none
def negV : Vl → Option Vl
  | .int i => some (.int (-i))
  | _ => none
section
variable {h c : Nat} {A A0 B : List Nat} {S S0 S' S1 : Sto}
theorem LK.int {i : Int} {d : D} (r : LK h c A S (.int i) d) : d = .int i := by have q := r.flat rfl; simpa only [RV] using q
theorem LK.bl {i : Bool} {d : D} (r : LK h c A S (.bl i) d) : d = .bl i := by have q := r.flat rfl; simpa only [RV] using q
theorem LK.str {i : Str} {d : D} (r : LK h c A S (.str i) d) : d = .str i := by have q := r.flat rfl; simpa only [RV] using q
theorem LK.non {d : D} (r : LK h c A S .non d) : d = .non := by have q := r.flat rfl; simpa only [RV] using q
theorem LK.raw {v : V} {d : D} (r : LK h c A S (.raw v) d) : d = .raw v := by have q := r.flat rfl; simpa only [RV] using q
theorem LK.tup {xs : List Vl} {d : D} (r : LK h c A S (.tup xs) d) : ∃ ds, d = .tup ds ∧ RVs h A S xs ds := by have q := r.flat rfl; simpa only [RV] using q
theorem fv_int (i : Int) : FV h A S S' (.int i) (.int i) := .inl ⟨rfl, by simp only [RV]⟩
theorem fv_bl (i : Bool) : FV h A S S' (.bl i) (.bl i) := .inl ⟨rfl, by simp only [RV]⟩
theorem fv_str (i : Str) : FV h A S S' (.str i) (.str i) := .inl ⟨rfl, by simp only [RV]⟩
theorem fv_tup {xs : List Vl} {ds : List D} (r : RVs h A S' xs ds) : FV h A S S' (.tup xs) (.tup ds) := .inl ⟨rfl, by simp only [RV]; exact ⟨ds, rfl, r⟩⟩
theorem op_addV : OpF dAdd addV := fun h c A S x y v w r C r1 r2 e => by
  unfold addV at e
  split at e
  · rename_i i j; cases e; rw [r1.int, r2.int]; exact ⟨_, S, rfl, .refl, fv_int _⟩
  · rename_i i j; cases e; rw [r1.int, r2.bl]; exact ⟨_, S, rfl, .refl, fv_int _⟩
  · rename_i i j
    split at e
    · rename_i hz; cases e; rw [r1.str, r2.str]; exact ⟨_, S, by unfold dAdd; simp only [if_pos hz], .refl, fv_str _⟩
    · cases e
  · rename_i xs ys
    split at e
    · rename_i hz
      cases e
      obtain ⟨ds, rfl, q1⟩ := r1.tup
      obtain ⟨es, rfl, q2⟩ := r2.tup
      exact ⟨_, S, by unfold dAdd; simp only [q1.len, q2.len, if_pos hz], .refl, fv_tup (q1.app q2)⟩
    · cases e
  · rename_i xs ys
    split at e
    · rename_i hz
      cases e
      obtain ⟨n, ds, rfl, e1, q1⟩ := r1.lst
      obtain ⟨m, es, rfl, e2, q2⟩ := r2.lst
      exact ⟨_, _, by unfold dAdd; simp only [e1, e2, q1.len, q2.len, if_pos hz], .push, new_list C (q1.app q2)⟩
    · cases e
  · cases e
theorem op_intV {f : Int → Int → Int} {k : Int → Int → Bool} : OpF (dI f k) (intV f k) := fun h c A S x y v w r C r1 r2 e => by
  unfold intV at e
  split at e
  · rename_i i j
    split at e
    · rename_i hk; cases e; rw [r1.int, r2.int]; exact ⟨_, S, by unfold dI; simp only [if_pos hk], .refl, fv_int _⟩
    · cases e
  · cases e
theorem op_subV : OpF dSub subV := op_intV
theorem op_fdivV : OpF dFdiv fdivV := op_intV
theorem op_modV : OpF dMod modV := op_intV
theorem op_powV : OpF dPow powV := op_intV
theorem op_mulV : OpF dMul mulV := fun h c A S x y v w r C r1 r2 e => by
  unfold mulV at e
  split at e
  · rename_i z k
    split at e
    · rename_i hk; cases e; rw [r1.str, r2.int]; exact ⟨.str (Txt.mul z k), S, by unfold dMul; simp only [if_pos hk], .refl, .inl ⟨rfl, by simp only [RV]⟩⟩
    · cases e
  · rename_i i j
    split at e
    · rename_i hk; cases e; rw [r1.int, r2.int]; exact ⟨_, S, by unfold dMul; simp only [if_pos hk], .refl, fv_int _⟩
    · cases e
  · rename_i xs k
    split at e
    · rename_i hk
      cases e
      obtain ⟨n, ds, rfl, e1, q1⟩ := r1.lst
      rw [r2.int]
      exact ⟨_, _, by unfold dMul; simp only [e1, q1.len, if_pos hk], .push, new_list C (q1.rep _)⟩
    · cases e
  · cases e
theorem un_negV : UnF dNeg negV := fun h c A S x v r C r1 e => by
  unfold negV at e
  split at e
  · cases e; rw [r1.int]; exact ⟨_, S, rfl, .refl, fv_int _⟩
  · cases e
end

/-! ### comparisons -/
def flatV : Vl → Option V
  | .non => some .non
  | .bl b => some (.bl b)
  | .int i => some (.int i)
  | .str x => some (.str x)
  | _ => none
def eq1V (x y : Vl) : Option Bool := match flatV x, flatV y with
  | some a, some b => if scal a b = true then some (decide (a = b)) else none
  | _, _ => match pd x, pd y with
    | some p, some q => if (decide (dep x ≤ LEV) && decide (dep y ≤ LEV) && (SeqAt.shaped p && SeqAt.shaped q)) = true then some (PyData.eqv p q) else none
    | _, _ => none
def eq0V : Vl → Vl → Option Bool
  | .tup xs, .tup ys => if (xs.isEmpty || ys.isEmpty) = true then some (xs.isEmpty && ys.isEmpty) else none
  | .lst xs, .lst ys => if (xs.isEmpty || ys.isEmpty) = true then some (xs.isEmpty && ys.isEmpty) else none
  | _, _ => none
def eqB (x y : Vl) : Option Bool := match eq0V x y with
  | some b => some b
  | none => eq1V x y
def eqV (x y : Vl) : Option Vl := (eqB x y).map .bl
def neV (x y : Vl) : Option Vl := (eqB x y).map fun b => .bl (!b)
section
variable {h c : Nat} {A A0 B : List Nat} {S S0 S' S1 : Sto}
theorem LK.flatD {v : Vl} {d : D} (r : LK h c A S v d) : DL.flatD d = flatV v := by
  cases v with
  | non => rw [r.non]; rfl
  | bl b => rw [r.bl]; rfl
  | int b => rw [r.int]; rfl
  | str b => rw [r.str]; rfl
  | raw b => rw [r.raw]; rfl
  | tup xs => obtain ⟨ds, rfl, _⟩ := r.tup; rfl
  | lst xs => obtain ⟨n, ds, rfl, _⟩ := r.lst; rfl
  | dct xs => obtain ⟨n, ds, rfl, _⟩ := r.dct; rfl
  | ins C xs => obtain ⟨n, ds, rfl, _⟩ := r.ins; rfl
  | hand => have q := r.flat rfl; simp only [RV] at q; subst q; rfl
  | scr ns => have q := r.flat rfl; simp only [RV] at q; obtain ⟨n, rfl, _⟩ := q; rfl
theorem LK.tup_inv {v : Vl} {ds : List D} (r : LK h c A S v (.tup ds)) : ∃ xs, v = .tup xs ∧ RVs h A S xs ds := by
  cases v with
  | tup xs => obtain ⟨_, q, r⟩ := r.tup; cases q; exact ⟨xs, rfl, r⟩
  | lst xs => obtain ⟨_, _, q, _⟩ := r.lst; cases q
  | dct xs => obtain ⟨_, _, q, _⟩ := r.dct; cases q
  | ins C xs => obtain ⟨_, _, q, _⟩ := r.ins; cases q
  | non => have q := r.non; cases q
  | bl b => have q := r.bl; cases q
  | int b => have q := r.int; cases q
  | str b => have q := r.str; cases q
  | raw b => have q := r.raw; cases q
  | hand => have q := r.flat rfl; simp only [RV] at q; cases q
  | scr ns => have q := r.flat rfl; simp only [RV] at q; obtain ⟨n, q, _⟩ := q; cases q
theorem LK.seq_inv {v : Vl} {n : Nat} {ds : List D} (r : LK h c A S v (.ref n)) (e : seqAt S n = some ds) (hp : (DL.pd v).isSome = true) : ∃ xs, v = .lst xs ∧ RVs h A S xs ds := by
  cases v with
  | lst xs =>
    obtain ⟨m, es, q, e1, r⟩ := r.lst
    cases q
    unfold seqAt at e
    rw [e1] at e
    cases e
    exact ⟨xs, rfl, r⟩
  | dct xs =>
    obtain ⟨m, es, q, e1, r⟩ := r.dct
    cases q
    unfold seqAt at e
    rw [e1] at e
    cases e
  | non => have q := r.non; cases q
  | bl b => have q := r.bl; cases q
  | int b => have q := r.int; cases q
  | str b => have q := r.str; cases q
  | tup b => obtain ⟨_, q, _⟩ := r.tup; cases q
  | _ => simp only [DL.pd, Option.isSome_none] at hp; cases hp
theorem eq1_pd {v w : Vl} {k : Bool} (e : eq1V v w = some k) (hf : flatV v = none) : (DL.pd v).isSome = true ∧ (DL.pd w).isSome = true := by
  unfold eq1V at e
  split at e
  · rename_i a b ea eb; rw [hf] at ea; cases ea
  · split at e
    · rename_i p q ep eq; rw [ep, eq]; exact ⟨rfl, rfl⟩
    · cases e
theorem eqB_ok {x y : D} {v w : Vl} {k : Bool} (r1 : LK h c A S v x) (r2 : LK h c A S w y) (e : eqB v w = some k) : eqD x y S = some k := by
  have low : (match DL.pd v, DL.pd w with
      | some p, some q => if (decide (dep v ≤ LEV) && decide (dep w ≤ LEV) && (SeqAt.shaped p && SeqAt.shaped q)) = true then some (PyData.eqv p q) else none
      | _, _ => none) = some k → (match toP S x, toP S y with
      | some p, some q => if (SeqAt.shaped p && SeqAt.shaped q) = true then some (PyData.eqv p q) else none
      | _, _ => none) = some k := by
    cases ep : DL.pd v with
    | none => exact fun e => nomatch e
    | some p =>
      cases eq : DL.pd w with
      | none => exact fun e => nomatch e
      | some q =>
        intro e
        have e : (if (decide (dep v ≤ LEV) && decide (dep w ≤ LEV) && (SeqAt.shaped p && SeqAt.shaped q)) = true then some (PyData.eqv p q) else none) = some k := e
        by_cases hs : (decide (dep v ≤ LEV) && decide (dep w ≤ LEV) && (SeqAt.shaped p && SeqAt.shaped q)) = true
        · rw [if_pos hs] at e
          rw [Bool.and_eq_true, Bool.and_eq_true] at hs
          obtain ⟨⟨h1, h2⟩, h3⟩ := hs
          rw [r1.pd ep (of_decide_eq_true h1), r2.pd eq (of_decide_eq_true h2)]
          show (if (SeqAt.shaped p && SeqAt.shaped q) = true then some (PyData.eqv p q) else none) = some k
          rw [if_pos h3]
          exact e
        · rw [if_neg hs] at e; cases e
  have one : eq1V v w = some k → eqD1 x y S = some k := by
    unfold eq1V eqD1
    rw [r1.flatD, r2.flatD]
    cases flatV v with
    | none => exact low
    | some a =>
      cases flatV w with
      | none => exact low
      | some b => exact id
  unfold eqB at e
  unfold eqD
  cases h0 : eq0V v w with
  | some b =>
    rw [h0] at e
    cases e
    unfold eq0V at h0
    split at h0
    · rename_i xs ys
      obtain ⟨ds, rfl, q1⟩ := r1.tup
      obtain ⟨es, rfl, q2⟩ := r2.tup
      unfold eq0
      simp only [q1.isEmpty, q2.isEmpty]
      rw [h0]
    · rename_i xs ys
      obtain ⟨n, ds, rfl, e1, q1⟩ := r1.lst
      obtain ⟨m, es, rfl, e2, q2⟩ := r2.lst
      have s1 : seqAt S n = some ds := by unfold seqAt; rw [e1]
      have s2 : seqAt S m = some es := by unfold seqAt; rw [e2]
      unfold eq0
      simp only [s1, s2, q1.isEmpty, q2.isEmpty]
      rw [h0]
    · cases h0
  | none =>
    rw [h0] at e
    have e1 := one e
    -- the empty case is none there, too, or says the same
    cases z : eq0 x y S with
    | none => exact e1
    | some b =>
      exfalso
      unfold eq0 at z
      split at z
      · rename_i ds es
        obtain ⟨xs, rfl, q1⟩ := r1.tup_inv
        obtain ⟨ys, rfl, q2⟩ := r2.tup_inv
        rw [q1.isEmpty, q2.isEmpty] at z
        simp only [eq0V] at h0
        rw [h0] at z; cases z
      · rename_i n m
        split at z
        · rename_i ds es s1 s2
          obtain ⟨p1, p2⟩ := eq1_pd e (by rw [← r1.flatD]; rfl)
          obtain ⟨xs, rfl, q1⟩ := r1.seq_inv s1 p1
          obtain ⟨ys, rfl, q2⟩ := r2.seq_inv s2 p2
          rw [q1.isEmpty, q2.isEmpty] at z
          simp only [eq0V] at h0
          rw [h0] at z; cases z
        · cases z
      · cases z
theorem op_eqV : OpF dEq eqV := fun h c A S x y v w r C r1 r2 e => by
  unfold eqV at e
  obtain ⟨k, ek, rfl⟩ := Option.map_eq_some_iff.mp e
  exact ⟨_, S, by unfold dEq; rw [eqB_ok r1 r2 ek]; rfl, .refl, fv_bl _⟩
theorem op_neV : OpF dNe neV := fun h c A S x y v w r C r1 r2 e => by
  unfold neV at e
  obtain ⟨k, ek, rfl⟩ := Option.map_eq_some_iff.mp e
  exact ⟨_, S, by unfold dNe; rw [eqB_ok r1 r2 ek]; rfl, .refl, fv_bl _⟩
end
def cmpV (f : Int → Int → Bool) (g : Str → Str → Bool) : Vl → Vl → Option Vl
  | .int i, .int j => some (.bl (f i j))
  | .str a, .str b => some (.bl (g a b))
  | _, _ => none
def ltV := cmpV (fun i j => decide (i < j)) fun a b => strLt a b
def leV := cmpV (fun i j => decide (i ≤ j)) fun a b => !strLt b a
def gtV := cmpV (fun i j => decide (j < i)) fun a b => strLt b a
def geV := cmpV (fun i j => decide (j ≤ i)) fun a b => !strLt a b
theorem op_cmpV {f : Int → Int → Bool} {g : Str → Str → Bool} : OpF (dCmp f g) (cmpV f g) := fun h c A S x y v w r C r1 r2 e => by
  unfold cmpV at e
  split at e
  · cases e; rw [r1.int, r2.int]; exact ⟨_, S, rfl, .refl, fv_bl _⟩
  · cases e; rw [r1.str, r2.str]; exact ⟨_, S, rfl, .refl, fv_bl _⟩
  · cases e
theorem op_ltV : OpF dLt ltV := op_cmpV
theorem op_leV : OpF dLe leV := op_cmpV
theorem op_gtV : OpF dGt gtV := op_cmpV
theorem op_geV : OpF dGe geV := op_cmpV
def isNonV : Vl → Option Bool
  | .non => some true
  | .raw _ => none
  | _ => some false
def isV (x y : Vl) : Option Vl := match y with
  | .non => (isNonV x).map .bl
  | _ => none
def isNotV (x y : Vl) : Option Vl := match y with
  | .non => (isNonV x).map fun b => .bl (!b)
  | _ => none
section
variable {h c : Nat} {A A0 B : List Nat} {S S0 S' S1 : Sto}
theorem isNonV_ok {v : Vl} {d : D} {k : Bool} (r : LK h c A S v d) (e : isNonV v = some k) : isNon d = some k := by
  cases v with
  | non => rw [r.non]; exact e
  | bl b => rw [r.bl]; exact e
  | int b => rw [r.int]; exact e
  | str b => rw [r.str]; exact e
  | raw b => cases e
  | tup xs => obtain ⟨ds, rfl, _⟩ := r.tup; exact e
  | lst xs => obtain ⟨n, ds, rfl, _⟩ := r.lst; exact e
  | dct xs => obtain ⟨n, ds, rfl, _⟩ := r.dct; exact e
  | ins C xs => obtain ⟨n, ds, rfl, _⟩ := r.ins; exact e
  | hand => have q := r.flat rfl; simp only [RV] at q; subst q; exact e
  | scr ns => have q := r.flat rfl; simp only [RV] at q; obtain ⟨n, rfl, _⟩ := q; exact e
theorem op_isV : OpF dIs isV := fun h c A S x y v w r C r1 r2 e => by
  unfold isV at e
  split at e
  · obtain ⟨k, ek, rfl⟩ := Option.map_eq_some_iff.mp e
    rw [r2.non]
    exact ⟨_, S, by unfold dIs; simp only [isNonV_ok r1 ek, Option.map_some], .refl, fv_bl _⟩
  · cases e
theorem op_isNotV : OpF dIsNot isNotV := fun h c A S x y v w r C r1 r2 e => by
  unfold isNotV at e
  split at e
  · obtain ⟨k, ek, rfl⟩ := Option.map_eq_some_iff.mp e
    rw [r2.non]
    exact ⟨_, S, by unfold dIsNot; simp only [isNonV_ok r1 ek, Option.map_some], .refl, fv_bl _⟩
  · cases e
end
/-! x in y -/
def inB (x y : Vl) : Option Bool := match x, y with
  | .str i, .str j => if i.length = 1 then some (decide (i.cps.getD 0 0 ∈ j.cps.toList)) else some (!(Builtin.Str.occurrences j i 0 j.length 1).isEmpty)
  | _, _ => match pd x, pd y with
    | some p, some (.list qs) => if (decide (dep x ≤ LEV) && decide (dep y ≤ LEV) && (SeqAt.shaped p && SeqAt.shaped (.list qs))) = true then some (qs.any fun z => PyData.eqv z p) else none
    | some p, some (.tuple qs) => if (decide (dep x ≤ LEV) && decide (dep y ≤ LEV) && (SeqAt.shaped p && SeqAt.shaped (.tuple qs))) = true then some (qs.any fun z => PyData.eqv z p) else none
    | _, _ => none
def inV (x y : Vl) : Option Vl := (inB x y).map .bl
def notInV (x y : Vl) : Option Vl := (inB x y).map fun b => .bl (!b)
section
variable {h c : Nat} {A A0 B : List Nat} {S S0 S' S1 : Sto}
theorem inB_ok {x y : D} {v w : Vl} {k : Bool} (r1 : LK h c A S v x) (r2 : LK h c A S w y) (e : inB v w = some k) : inD x y S = some k := by
  unfold inB at e
  split at e
  · rw [r1.str, r2.str]; unfold inD; exact e
  · rename_i hne
    have hx : ∀ i j, x = .str i → y = .str j → False := fun i j ex ey => by
      subst ex; subst ey
      have f1 := r1.flatD
      have f2 := r2.flatD
      cases v <;> simp only [DL.flatD, flatV] at f1 <;> first | cases f1 | skip
      cases w <;> simp only [DL.flatD, flatV] at f2 <;> first | cases f2 | skip
      exact hne _ _ rfl rfl
    unfold inD
    split
    · rename_i i j; exact (hx i j rfl rfl).elim
    · split at e
      · rename_i p qs ep eq
        split at e
        · rename_i hs
          rw [Bool.and_eq_true, Bool.and_eq_true] at hs
          obtain ⟨⟨h1, h2⟩, h3⟩ := hs
          simp only [r1.pd ep (of_decide_eq_true h1), r2.pd eq (of_decide_eq_true h2), if_pos h3]
          exact e
        · cases e
      · rename_i p qs ep eq
        split at e
        · rename_i hs
          rw [Bool.and_eq_true, Bool.and_eq_true] at hs
          obtain ⟨⟨h1, h2⟩, h3⟩ := hs
          simp only [r1.pd ep (of_decide_eq_true h1), r2.pd eq (of_decide_eq_true h2), if_pos h3]
          exact e
        · cases e
      · cases e
theorem op_inV : OpF dIn inV := fun h c A S x y v w r C r1 r2 e => by
  unfold inV at e
  obtain ⟨k, ek, rfl⟩ := Option.map_eq_some_iff.mp e
  exact ⟨_, S, by unfold dIn; rw [inB_ok r1 r2 ek]; rfl, .refl, fv_bl _⟩
theorem op_notInV : OpF dNotIn notInV := fun h c A S x y v w r C r1 r2 e => by
  unfold notInV at e
  obtain ⟨k, ek, rfl⟩ := Option.map_eq_some_iff.mp e
  exact ⟨_, S, by unfold dNotIn; rw [inB_ok r1 r2 ek]; rfl, .refl, fv_bl _⟩
end
end DL

/-! the V-layer: subscripts, slices, built-ins, methods of texts -/
namespace DL
open PySem L2
/-! ### x[i] -/
def ixV : Vl → Vl → Option Vl
  | .tup xs, .int i => atI xs i
  | .lst xs, .int i => atI xs i
  | .str z, .int i => if z.length ≤ sizeLine then (atI z.cps.toList i).map fun c => .str ⟨#[c]⟩ else none
  | .dct kvs, k => if (kOf k).isSome = true then getKV kvs k else none
  | _, _ => none
section
variable {h c : Nat} {A A0 B : List Nat} {S S0 S' S1 : Sto}
theorem RVs.atI {xs : List Vl} {ds : List D} {i : Int} {v : Vl} (r : RVs h A S xs ds) (e : L2.atI xs i = some v) : ∃ d, L2.atI ds i = some d ∧ RV h A S v d := by
  unfold L2.atI at e ⊢
  rw [r.len]
  cases q : ixN xs.length i with
  | none => rw [q] at e; cases e
  | some j => rw [q] at e; exact r.get e
theorem op_ixV : OpE dIx ixV := fun h c A S x y v w r C r1 r2 e => by
  unfold ixV at e
  split at e
  · obtain ⟨ds, rfl, q⟩ := r1.tup
    obtain ⟨d, ed, rd⟩ := q.atI e
    rw [r2.int]
    exact ⟨d, S, by unfold dIx; simp only [ed, Option.map_some], .refl, rd⟩
  · obtain ⟨n, ds, rfl, en, q⟩ := r1.lst
    obtain ⟨d, ed, rd⟩ := q.atI e
    rw [r2.int]
    exact ⟨d, S, ix_lst en ed, .refl, rd⟩
  · rename_i z i
    split at e
    · rename_i hz
      obtain ⟨ch, ec, rfl⟩ := Option.map_eq_some_iff.mp e
      rw [r1.str, r2.int]
      exact ⟨.str ⟨#[ch]⟩, S, by unfold dIx; simp only [if_pos hz, ec, Option.map_some], .refl, by simp only [RV]⟩
    · cases e
  · rename_i kvs k
    split at e
    · rename_i hk
      obtain ⟨key, ek⟩ := Option.isSome_iff_exists.mp hk
      obtain ⟨n, ds, rfl, en, q⟩ := r1.dct
      obtain ⟨d, ed, rd⟩ := q.val ek e
      exact ⟨d, S, by unfold dIx; simp only [en, kOf_rd ek r2, Option.bind_some, ed, Option.map_some], .refl, rd⟩
    · cases e
  · cases e
/-! ### slices -/
def cutL {α : Type} (xs : List α) (lo hi : Option Int) : List α := (xs.drop (HT.sIx xs.length 0 lo)).take (HT.sIx xs.length xs.length hi - HT.sIx xs.length 0 lo)
def slV (v : Vl) (lo hi : Option Int) : Option Vl := match v with
  | .tup xs => some (.tup (cutL xs lo hi))
  | .str z => if z.length ≤ sizeLine then some (.str (cutS z lo hi)) else none
  | .lst xs => some (.lst (cutL xs lo hi))
  | .scr ns => some (.lst (cutL (ns.map .int) lo hi))
  | _ => none
theorem RVs.cut {xs : List Vl} {ds : List D} (r : RVs h A S xs ds) (lo hi : Option Int) : RVs h A S (cutL xs lo hi) (cutD ds lo hi) := by
  unfold cutL cutD
  rw [r.len]
  exact (r.drop _).take _
theorem slV_ok {v : Vl} {d : D} {lo hi : Option Int} {r : Vl} (C : Ctx h c A S) (r1 : LK h c A S v d) (e : slV v lo hi = some r) : ∃ d' S', dSl d lo hi S = some (d', S') ∧ Stp [] S S' ∧ FV h A S S' r d' := by
  unfold slV at e
  split at e
  · cases e
    obtain ⟨ds, rfl, q⟩ := r1.tup
    exact ⟨_, S, rfl, .refl, fv_tup (q.cut lo hi)⟩
  · split at e
    · rename_i hz
      cases e
      rw [r1.str]
      exact ⟨_, S, by unfold dSl; simp only [if_pos hz], .refl, fv_str _⟩
    · cases e
  · cases e
    obtain ⟨n, ds, rfl, en, q⟩ := r1.lst
    exact ⟨_, _, sl_lst en lo hi, .push, new_list C (q.cut lo hi)⟩
  · rename_i ns
    cases e
    have q := r1.flat rfl
    simp only [RV] at q
    obtain ⟨n, rfl, hn, en⟩ := q
    refine ⟨.ref S.length, S ++ [.lst (cutD (ns.map .int) lo hi)], ?_, .push, new_list C ((RVs.ints ns).cut lo hi)⟩
    unfold dSl
    have : seqAt S n = some (ns.map .int) := by unfold seqAt; rw [en]
    simp only [this, Option.map_some]
  · cases e
end
abbrev VOM := VEnv → (Option Int → Prop) → (VX → Prop) → Prop
def JO (m : OM) (F : VOM) : Prop := ∀ (h c : Nat) (S0 : Sto) (A0 A : List Nat) (ρ : Ev) (S : Sto) (env : VEnv) (Q : Option Int → Prop) (E : VX → Prop), VI h c S0 A0 A ρ S env → F env Q E →
  WX' (m ρ S) (fun o S' => Adv h c S S' ∧ Q o) (fun e S' => Adv h c S S' ∧ ∃ x, RXx h A S' x e ∧ E x)
def voNone : VOM := fun _ Q _ => Q none
def voSome (F : VM) : VOM := fun env Q E => F env (fun v => match v with | .int i => Q (some i) | _ => False) E
theorem o_none : JO oNone voNone := fun h c S0 A0 A ρ S env Q E I f => ⟨.refl I.hand, f⟩
theorem o_some {m : EM} {F : VM} (j : JP m F) : JO (oSome m) (voSome F) := fun h c S0 A0 A ρ S env Q E I f => by
  refine wx_bind ((j h c S0 A0 A ρ S env _ E I f).mono ?_ fun _ _ z => z)
  rintro x S1 ⟨a1, v, r1, q⟩
  cases v with
  | int i => rw [r1.int]; exact ⟨a1, q⟩
  | _ => exact q.elim
def vSl (F : VM) (l u : VOM) : VM := fun env Q E => F env (fun v => l env (fun lo => u env (fun hi => vO (slV v lo hi) Q) E) E) E
theorem f_sl {m : EM} {F : VM} {l u : OM} {Fl Fu : VOM} (j : JP m F) (jl : JO l Fl) (ju : JO u Fu) : JF (mSl m l u) (vSl F Fl Fu) := fun h c S0 A0 A ρ S env Q E I f => by
  refine wx_bind ((j h c S0 A0 A ρ S env _ E I f).mono ?_ fun _ _ z => z)
  rintro x S1 ⟨a1, v, r1, f⟩
  refine wx_bind ((jl h c S0 A0 A ρ S1 env _ E (I.go a1) f).mono ?_ fun e S' ⟨a, z⟩ => ⟨a1.trans a, z⟩)
  rintro lo S2 ⟨a2, f⟩
  refine wx_bind ((ju h c S0 A0 A ρ S2 env _ E ((I.go a1).go a2) f).mono ?_ fun e S' ⟨a, z⟩ => ⟨(a1.trans a2).trans a, z⟩)
  rintro hi S3 ⟨a3, q⟩
  obtain ⟨r, er, q⟩ := vO_elim q
  have a := (a1.trans a2).trans a3
  obtain ⟨d', S', e, st, rr⟩ := slV_ok (I.go a).ctx ((I.go a1).ctx.lk (a2.trans a3) r1) er
  exact wx_ofO e ⟨a.trans (a.1.stp st), r, rr.from a.2.1, q⟩
def revV : Vl → Option Vl
  | .lst xs => some (.lst xs.reverse)
  | .tup xs => some (.tup xs.reverse)
  | .str x => if x.length ≤ sizeLine then some (.str (revS x)) else none
  | _ => none
theorem f_rev {m : EM} {F : VM} (j : JP m F) : JF (mRev m) (vUn revV F) := fun h c S0 A0 A ρ S env Q E I f => by
  refine wx_bind ((j h c S0 A0 A ρ S env _ E I f).mono ?_ fun _ _ z => z)
  rintro x S1 ⟨a1, v, r1, q⟩
  obtain ⟨r, er, q⟩ := vO_elim q
  cases v with
  | lst xs =>
    cases er
    obtain ⟨n, ds, rfl, en, rr⟩ := r1.lst
    have : seqAt S1 n = some ds := by unfold seqAt; rw [en]
    simp only [this]
    exact ⟨a1.trans (push_hand a1.1), _, (new_list (I.go a1).ctx rr.rev).from a1.2.1, q⟩
  | tup xs =>
    cases er
    obtain ⟨ds, rfl, rr⟩ := r1.tup
    exact ⟨a1, _, fv_tup rr.rev, q⟩
  | str z =>
    simp only [revV] at er
    split at er
    · rename_i hz
      cases er
      rw [r1.str]
      simp only [if_pos hz]
      exact ⟨a1, _, .inl ⟨rfl, by simp only [RV]⟩, q⟩
    · cases er
  | _ => cases er
/-! ### built-ins -/
def listV : Vl → Option (List Vl)
  | .tup xs => some xs
  | .lst xs => some xs
  | _ => none
def lenV : List Vl → Option Vl
  | [.tup xs] => some (.int xs.length)
  | [.lst xs] => some (.int xs.length)
  | [.dct xs] => some (.int xs.length)
  | [.str z] => if z.length ≤ sizeLine then some (.int z.length) else none
  | _ => none
def listOfV : List Vl → Option Vl
  | [v] => (listV v).map .lst
  | _ => none
def tupleOfV : List Vl → Option Vl
  | [v] => (listV v).map .tup
  | _ => none
def blsV : List Vl → Option (List Bool)
  | [] => some []
  | .bl x :: r => (blsV r).map (x :: ·)
  | _ => none
def intsOf : List Vl → Option (List Int)
  | [] => some []
  | .int x :: r => (intsOf r).map (x :: ·)
  | _ => none
def strsV : List Vl → Option (List Str)
  | [] => some []
  | .str x :: r => (strsV r).map (x :: ·)
  | _ => none
def allV : List Vl → Option Vl
  | [.lst xs] => (blsV xs).map fun bs => .bl (bs.all id)
  | _ => none
def anyV : List Vl → Option Vl
  | [.lst xs] => (blsV xs).map fun bs => .bl (bs.any id)
  | _ => none
def sumV : List Vl → Option Vl
  | [.lst xs] => (intsOf xs).map fun ns => .int ns.sum
  | _ => none
def ordV : List Vl → Option Vl
  | [.str z] => if z.length = 1 then some (.int (z.cps.getD 0 0 : Nat)) else none
  | _ => none
def tyVl : Vl → Option String
  | .non => some "NoneType"
  | .bl _ => some "bool"
  | .int _ => some "int"
  | .str _ => some "str"
  | .tup _ => some "tuple"
  | .lst _ => some "list"
  | .dct _ => some "dict"
  | .scr _ => some "list"
  | _ => none
def isiV : List Vl → Option Vl
  | [v, .raw (.ty T)] => (tyVl v).bind fun t => (kitB t T).map fun b => .bl b
  | _ => none
def intOfV : List Vl → Option Vl
  | [.int i] => some (.int i)
  | [.bl b] => some (.int (PyProof.Rows.b2i b))
  | _ => none
def maxV : List Vl → Option Vl
  | [.int i, .int j] => some (.int (if j > i then j else i))
  | _ => none
def minV : List Vl → Option Vl
  | [.int i, .int j] => some (.int (if j < i then j else i))
  | _ => none
def reprV : List Vl → Option Vl
  | [v] => (pd v).bind fun p => if (decide (dep v ≤ LEV) && okRepr p) = true then some (.str p.shown) else none
  | _ => none
section
variable {h c : Nat} {A A0 B : List Nat} {S S0 S' S1 : Sto}
theorem LKs.one {v : Vl} {ds : List D} (r : LKs h c A S [v] ds) : ∃ d, ds = [d] ∧ LK h c A S v d := by
  simp only [LKs] at r
  obtain ⟨d, q, rfl, a, rfl⟩ := r
  exact ⟨d, rfl, a⟩
theorem LKs.two {v w : Vl} {ds : List D} (r : LKs h c A S [v, w] ds) : ∃ d e, ds = [d, e] ∧ LK h c A S v d ∧ LK h c A S w e := by
  simp only [LKs] at r
  obtain ⟨d, q, rfl, a, e, q2, rfl, b, rfl⟩ := r
  exact ⟨d, e, rfl, a, b⟩
theorem LKs.three {v w u : Vl} {ds : List D} (r : LKs h c A S [v, w, u] ds) : ∃ d e f, ds = [d, e, f] ∧ LK h c A S v d ∧ LK h c A S w e ∧ LK h c A S u f := by
  simp only [LKs] at r
  obtain ⟨d, q, rfl, a, e, q2, rfl, b, f, q3, rfl, k, rfl⟩ := r
  exact ⟨d, e, f, rfl, a, b, k⟩
theorem listV_ok {v : Vl} {d : D} {xs : List Vl} (r : LK h c A S v d) (e : listV v = some xs) : ∃ ds, itemsD d S = some ds ∧ RVs h A S xs ds := by
  unfold listV at e
  split at e
  · cases e
    obtain ⟨ds, rfl, q⟩ := r.tup
    exact ⟨ds, rfl, q⟩
  · cases e
    obtain ⟨n, ds, rfl, en, q⟩ := r.lst
    exact ⟨ds, by show seqAt S n = _; unfold seqAt; rw [en], q⟩
  · cases e
theorem RVs.bls : ∀ {xs : List Vl} {ds : List D} {bs : List Bool}, RVs h A S xs ds → blsV xs = some bs → blsD ds = some bs
  | [], ds, bs, r, e => by simp only [RVs] at r; subst r; exact e
  | .bl x :: xs, ds, bs, r, e => by
    simp only [RVs, RV] at r
    obtain ⟨_, q, rfl, rfl, b⟩ := r
    simp only [blsV] at e
    obtain ⟨cs, e1, rfl⟩ := Option.map_eq_some_iff.mp e
    simp only [blsD, RVs.bls b e1, Option.map_some]
  | .non :: _, _, _, _, e => by simp [blsV] at e
  | .int _ :: _, _, _, _, e => by simp [blsV] at e
  | .str _ :: _, _, _, _, e => by simp [blsV] at e
  | .tup _ :: _, _, _, _, e => by simp [blsV] at e
  | .lst _ :: _, _, _, _, e => by simp [blsV] at e
  | .dct _ :: _, _, _, _, e => by simp [blsV] at e
  | .ins _ _ :: _, _, _, _, e => by simp [blsV] at e
  | .raw _ :: _, _, _, _, e => by simp [blsV] at e
  | .hand :: _, _, _, _, e => by simp [blsV] at e
  | .scr _ :: _, _, _, _, e => by simp [blsV] at e
theorem RVs.intsOf : ∀ {xs : List Vl} {ds : List D} {bs : List Int}, RVs h A S xs ds → DL.intsOf xs = some bs → intsD ds = some bs
  | [], ds, bs, r, e => by simp only [RVs] at r; subst r; exact e
  | .int x :: xs, ds, bs, r, e => by
    simp only [RVs, RV] at r
    obtain ⟨_, q, rfl, rfl, b⟩ := r
    simp only [DL.intsOf] at e
    obtain ⟨cs, e1, rfl⟩ := Option.map_eq_some_iff.mp e
    simp only [intsD, RVs.intsOf b e1, Option.map_some]
  | .non :: _, _, _, _, e => by simp [DL.intsOf] at e
  | .bl _ :: _, _, _, _, e => by simp [DL.intsOf] at e
  | .str _ :: _, _, _, _, e => by simp [DL.intsOf] at e
  | .tup _ :: _, _, _, _, e => by simp [DL.intsOf] at e
  | .lst _ :: _, _, _, _, e => by simp [DL.intsOf] at e
  | .dct _ :: _, _, _, _, e => by simp [DL.intsOf] at e
  | .ins _ _ :: _, _, _, _, e => by simp [DL.intsOf] at e
  | .raw _ :: _, _, _, _, e => by simp [DL.intsOf] at e
  | .hand :: _, _, _, _, e => by simp [DL.intsOf] at e
  | .scr _ :: _, _, _, _, e => by simp [DL.intsOf] at e
theorem RVs.strsV : ∀ {xs : List Vl} {ds : List D} {bs : List Str}, RVs h A S xs ds → DL.strsV xs = some bs → strsD ds = some bs
  | [], ds, bs, r, e => by simp only [RVs] at r; subst r; exact e
  | .str x :: xs, ds, bs, r, e => by
    simp only [RVs, RV] at r
    obtain ⟨_, q, rfl, rfl, b⟩ := r
    simp only [DL.strsV] at e
    obtain ⟨cs, e1, rfl⟩ := Option.map_eq_some_iff.mp e
    simp only [strsD, RVs.strsV b e1, Option.map_some]
  | .non :: _, _, _, _, e => by simp [DL.strsV] at e
  | .bl _ :: _, _, _, _, e => by simp [DL.strsV] at e
  | .int _ :: _, _, _, _, e => by simp [DL.strsV] at e
  | .tup _ :: _, _, _, _, e => by simp [DL.strsV] at e
  | .lst _ :: _, _, _, _, e => by simp [DL.strsV] at e
  | .dct _ :: _, _, _, _, e => by simp [DL.strsV] at e
  | .ins _ _ :: _, _, _, _, e => by simp [DL.strsV] at e
  | .raw _ :: _, _, _, _, e => by simp [DL.strsV] at e
  | .hand :: _, _, _, _, e => by simp [DL.strsV] at e
  | .scr _ :: _, _, _, _, e => by simp [DL.strsV] at e
theorem b_len : OpsF bLen lenV := fun h c A S xs vs r C rs e => by
  unfold lenV at e
  split at e
  · cases e; obtain ⟨d, rfl, r⟩ := rs.one; obtain ⟨ds, rfl, q⟩ := r.tup
    exact ⟨_, S, by show some (D.int (ds.length : Nat), S) = _; rw [q.len], .refl, fv_int _⟩
  · cases e; obtain ⟨d, rfl, r⟩ := rs.one; obtain ⟨n, ds, rfl, en, q⟩ := r.lst
    exact ⟨_, S, by rw [len_lst en, q.len], .refl, fv_int _⟩
  · cases e; obtain ⟨d, rfl, r⟩ := rs.one; obtain ⟨n, ds, rfl, en, q⟩ := r.dct
    refine ⟨_, S, ?_, .refl, fv_int _⟩
    have : seqAt S n = none := by unfold seqAt; rw [en]
    unfold bLen itemsD
    simp only [this, en, q.len]
  · split at e
    · rename_i hz; cases e; obtain ⟨d, rfl, r⟩ := rs.one; rw [r.str]; exact ⟨_, S, len_str hz, .refl, fv_int _⟩
    · cases e
  · cases e
theorem b_list : OpsF bList listOfV := fun h c A S xs vs r C rs e => by
  unfold listOfV at e
  split at e
  · obtain ⟨ys, e1, rfl⟩ := Option.map_eq_some_iff.mp e
    obtain ⟨d, rfl, r⟩ := rs.one
    obtain ⟨ds, ed, q⟩ := listV_ok r e1
    exact ⟨_, _, by unfold bList; simp only [ed, Option.map_some], .push, new_list C q⟩
  · cases e
theorem b_tuple : OpsF bTuple tupleOfV := fun h c A S xs vs r C rs e => by
  unfold tupleOfV at e
  split at e
  · obtain ⟨ys, e1, rfl⟩ := Option.map_eq_some_iff.mp e
    obtain ⟨d, rfl, r⟩ := rs.one
    obtain ⟨ds, ed, q⟩ := listV_ok r e1
    exact ⟨_, S, by unfold bTuple; simp only [ed, Option.map_some], .refl, fv_tup q⟩
  · cases e
theorem b_all : OpsF bAll allV := fun h c A S xs vs r C rs e => by
  unfold allV at e
  split at e
  · obtain ⟨bs, e1, rfl⟩ := Option.map_eq_some_iff.mp e
    obtain ⟨d, rfl, r⟩ := rs.one
    obtain ⟨n, ds, rfl, en, q⟩ := r.lst
    refine ⟨_, S, ?_, .refl, fv_bl _⟩
    unfold bAll seqB
    simp only [seq_of en, Option.bind_some, q.bls e1, Option.map_some]
  · cases e
theorem b_any : OpsF bAny anyV := fun h c A S xs vs r C rs e => by
  unfold anyV at e
  split at e
  · obtain ⟨bs, e1, rfl⟩ := Option.map_eq_some_iff.mp e
    obtain ⟨d, rfl, r⟩ := rs.one
    obtain ⟨n, ds, rfl, en, q⟩ := r.lst
    refine ⟨_, S, ?_, .refl, fv_bl _⟩
    unfold bAny seqB
    simp only [seq_of en, Option.bind_some, q.bls e1, Option.map_some]
  · cases e
theorem b_sum : OpsF bSum sumV := fun h c A S xs vs r C rs e => by
  unfold sumV at e
  split at e
  · obtain ⟨bs, e1, rfl⟩ := Option.map_eq_some_iff.mp e
    obtain ⟨d, rfl, r⟩ := rs.one
    obtain ⟨n, ds, rfl, en, q⟩ := r.lst
    refine ⟨_, S, ?_, .refl, fv_int _⟩
    unfold bSum seqZ
    simp only [seq_of en, Option.bind_some, q.intsOf e1, Option.map_some]
  · cases e
theorem b_ord : OpsF bOrd ordV := fun h c A S xs vs r C rs e => by
  unfold ordV at e
  split at e
  · split at e
    · rename_i hz; cases e; obtain ⟨d, rfl, r⟩ := rs.one; rw [r.str]
      exact ⟨_, S, by unfold bOrd; simp only [if_pos hz], .refl, fv_int _⟩
    · cases e
  · cases e
theorem tyVl_ok {v : Vl} {d : D} {t : String} (r : LK h c A S v d) (e : tyVl v = some t) : tyD S d = some t := by
  cases v with
  | non => rw [r.non]; exact e
  | bl b => rw [r.bl]; exact e
  | int b => rw [r.int]; exact e
  | str b => rw [r.str]; exact e
  | raw b => cases e
  | tup xs => obtain ⟨ds, rfl, _⟩ := r.tup; exact e
  | lst xs => obtain ⟨n, ds, rfl, en, _⟩ := r.lst; simp only [tyD, en]; exact e
  | dct xs => obtain ⟨n, ds, rfl, en, _⟩ := r.dct; simp only [tyD, en]; exact e
  | ins C xs => cases e
  | hand => cases e
  | scr ns => have q := r.flat rfl; simp only [RV] at q; obtain ⟨n, rfl, _, en⟩ := q; simp only [tyD, en]; exact e
theorem b_isi : OpsF bIsi isiV := fun h c A S xs vs r C rs e => by
  unfold isiV at e
  split at e
  · obtain ⟨t, e1, e2⟩ := Option.bind_eq_some_iff.mp e
    obtain ⟨b, e3, rfl⟩ := Option.map_eq_some_iff.mp e2
    obtain ⟨d, k, rfl, r1, r2⟩ := rs.two
    rw [r2.raw]
    exact ⟨_, S, by unfold bIsi; simp only [tyVl_ok r1 e1, Option.bind_some, e3, Option.map_some], .refl, fv_bl _⟩
  · cases e
theorem b_int : OpsF bInt intOfV := fun h c A S xs vs r C rs e => by
  unfold intOfV at e
  split at e
  · cases e; obtain ⟨d, rfl, r⟩ := rs.one; rw [r.int]; exact ⟨_, S, rfl, .refl, fv_int _⟩
  · cases e; obtain ⟨d, rfl, r⟩ := rs.one; rw [r.bl]; exact ⟨_, S, rfl, .refl, fv_int _⟩
  · cases e
theorem b_max : OpsF bMax maxV := fun h c A S xs vs r C rs e => by
  unfold maxV at e
  split at e
  · cases e; obtain ⟨d, k, rfl, r1, r2⟩ := rs.two; rw [r1.int, r2.int]; exact ⟨_, S, rfl, .refl, fv_int _⟩
  · cases e
theorem b_min : OpsF bMin minV := fun h c A S xs vs r C rs e => by
  unfold minV at e
  split at e
  · cases e; obtain ⟨d, k, rfl, r1, r2⟩ := rs.two; rw [r1.int, r2.int]; exact ⟨_, S, rfl, .refl, fv_int _⟩
  · cases e
theorem b_repr : OpsF bRepr reprV := fun h c A S xs vs r C rs e => by
  unfold reprV at e
  split at e
  · obtain ⟨p, e1, e2⟩ := Option.bind_eq_some_iff.mp e
    split at e2
    · rename_i hk
      rw [Bool.and_eq_true] at hk
      cases e2
      obtain ⟨d, rfl, r⟩ := rs.one
      exact ⟨_, S, by unfold bRepr; simp only [r.pd e1 (of_decide_eq_true hk.1), Option.bind_some, if_pos hk.2], .refl, fv_str _⟩
    · cases e2
  · cases e
/-! ### methods of texts -/
def joinV : Vl → List Vl → Option Vl
  | .str a, [v] => ((listV v).bind strsV).bind fun ys => if (ys.map (·.length)).sum + ys.length * a.length ≤ 16777216 then some (.str (Txt.join a ys)) else none
  | _, _ => none
def splitV : Vl → List Vl → Option Vl
  | .str a, [.str b] => if ((b.length != 0) && decide (a.length + 2 ≤ sizeLine)) = true then some (.lst ((Txt.split a b).map .str)) else none
  | .str a, [] => if a.length + 2 ≤ sizeLine then some (.lst ((Txt.words a).map .str)) else none
  | _, _ => none
def rstripV : Vl → List Vl → Option Vl
  | .str a, [.str b] => if a.length ≤ sizeLine then some (.str (Txt.rstripChars a b)) else none
  | _, _ => none
def countV : Vl → List Vl → Option Vl
  | .str a, [.str b] => some (.int (Txt.count a b))
  | _, _ => none
def findV : Vl → List Vl → Option Vl
  | .str a, [.str b] => some (.int (Txt.find a b))
  | .str a, [.str b, .int i] => some (.int (Txt.find3 a b i))
  | _, _ => none
theorem mt_joinV : MtF dJoin joinV := fun h c A S x v xs vs r C r1 rs e => by
  unfold joinV at e
  split at e
  · obtain ⟨ys, e1, e2⟩ := Option.bind_eq_some_iff.mp e
    obtain ⟨zs, e3, e4⟩ := Option.bind_eq_some_iff.mp e1
    split at e2
    · rename_i hz
      cases e2
      obtain ⟨d, rfl, r⟩ := rs.one
      obtain ⟨ds, ed, q⟩ := listV_ok r e3
      rw [r1.str]
      exact ⟨_, S, by unfold dJoin; simp only [ed, Option.bind_some, q.strsV e4, if_pos hz], .refl, fv_str _⟩
    · cases e2
  · cases e
theorem mt_splitV : MtF dSplit splitV := fun h c A S x v xs vs r C r1 rs e => by
  unfold splitV at e
  split at e
  · split at e
    · rename_i hz
      cases e
      obtain ⟨d, rfl, r⟩ := rs.one
      rw [r1.str, r.str]
      exact ⟨_, _, by unfold dSplit; simp only [if_pos hz], .push, new_list C (.strs _)⟩
    · cases e
  · split at e
    · rename_i hz
      cases e
      simp only [LKs] at rs
      subst rs
      rw [r1.str]
      exact ⟨_, _, by unfold dSplit; simp only [if_pos hz], .push, new_list C (.strs _)⟩
    · cases e
  · cases e
theorem mt_rstripV : MtF dRstrip rstripV := fun h c A S x v xs vs r C r1 rs e => by
  unfold rstripV at e
  split at e
  · split at e
    · rename_i hz
      cases e
      obtain ⟨d, rfl, r⟩ := rs.one
      rw [r1.str, r.str]
      exact ⟨_, S, by unfold dRstrip; simp only [if_pos hz], .refl, fv_str _⟩
    · cases e
  · cases e
theorem mt_countV : MtF dCount countV := fun h c A S x v xs vs r C r1 rs e => by
  unfold countV at e
  split at e
  · cases e
    obtain ⟨d, rfl, r⟩ := rs.one
    rw [r1.str, r.str]
    exact ⟨_, S, rfl, .refl, fv_int _⟩
  · cases e
def indexV : Vl → List Vl → Option Vl
  | .str a, [.str b] => (Txt.index0 a b).map fun k => .int (k : Nat)
  | _, _ => none
theorem mt_findV : MtF dFind findV := fun h c A S x v xs vs r C r1 rs e => by
  unfold findV at e
  split at e
  · cases e
    obtain ⟨d, rfl, r⟩ := rs.one
    rw [r1.str, r.str]
    exact ⟨_, S, rfl, .refl, fv_int _⟩
  · cases e
    obtain ⟨d, k, rfl, r, r2⟩ := rs.two
    rw [r1.str, r.str, r2.int]
    exact ⟨_, S, rfl, .refl, fv_int _⟩
  · cases e
theorem mt_indexV : MtF dIndex indexV := fun h c A S x v xs vs r C r1 rs e => by
  unfold indexV at e
  split at e
  · obtain ⟨k, e1, rfl⟩ := Option.map_eq_some_iff.mp e
    obtain ⟨d, rfl, r⟩ := rs.one
    rw [r1.str, r.str]
    exact ⟨_, S, by unfold dIndex; simp only [e1, Option.map_some], .refl, fv_int _⟩
  · cases e
end
end DL

/-! the V-layer: errors raised and caught -/
namespace DL
open PySem L2
section
variable {h c : Nat} {A A0 B : List Nat} {S S0 S' S1 : Sto} {v w : Vl} {d : D} {ρ : Ev} {env : VEnv}
theorem RVf.app : ∀ {vs us : List (Str × Vl)} {ds es : List (Str × D)}, RVf h A S vs ds → RVf h A S us es → RVf h A S (vs ++ us) (ds ++ es)
  | [], us, ds, es, a, b => by simp only [RVf] at a; subst a; exact b
  | (x, v) :: vs, us, ds, es, a, b => by
    simp only [RVf] at a
    obtain ⟨d, q, rfl, a1, a2⟩ := a
    show RVf h A S ((x, v) :: (vs ++ us)) ((x, d) :: (q ++ es))
    simp only [RVf]
    exact ⟨d, _, rfl, a1, RVf.app a2 b⟩
theorem RVf.rev : ∀ {vs : List (Str × Vl)} {ds : List (Str × D)}, RVf h A S vs ds → RVf h A S vs.reverse ds.reverse
  | [], ds, r => by simp only [RVf] at r; subst r; simp only [List.reverse_nil, RVf]
  | (x, v) :: vs, ds, r => by
    simp only [RVf] at r
    obtain ⟨d, q, rfl, a, b⟩ := r
    rw [List.reverse_cons, List.reverse_cons]
    exact (RVf.rev b).app (by simp only [RVf]; exact ⟨d, [], rfl, a, rfl⟩)
theorem RVf.zip {vs : List Vl} {ds : List D} : ∀ (fs : List Str), RVs h A S vs ds → RVf h A S (fs.zip vs) (fs.zip ds) := by
  induction vs generalizing ds with
  | nil => intro fs r; simp only [RVs] at r; subst r; rw [List.zip_nil_right, List.zip_nil_right]; simp only [RVf]
  | cons v vs ih =>
    intro fs r
    simp only [RVs] at r
    obtain ⟨d, q, rfl, a, b⟩ := r
    cases fs with
    | nil => rw [List.zip_nil_left, List.zip_nil_left]; simp only [RVf]
    | cons f fs => rw [List.zip_cons_cons, List.zip_cons_cons]; simp only [RVf]; exact ⟨d, _, rfl, a, ih fs b⟩
theorem RVf.look : ∀ {vs : List (Str × Vl)} {ds : List (Str × D)} {f : Str} {v : Vl}, RVf h A S vs ds → vs.lookup f = some v → ∃ d, ds.lookup f = some d ∧ RV h A S v d
  | [], ds, f, v, r, e => by cases e
  | (x, v0) :: vs, ds, f, v, r, e => by
    simp only [RVf] at r
    obtain ⟨d, q, rfl, a, b⟩ := r
    simp only [List.lookup] at e ⊢
    split at e
    · cases e; exact ⟨d, rfl, a⟩
    · exact RVf.look b e
theorem RXx.mv {x : VX} {e : Exn} (m : Mv A S B S') (r : RXx h A S x e) : RXx h B S' x e := ⟨r.1, RVf.mv m r.2⟩
end
section
variable {fr : Bool} {m m2 : Exn → EM} {F F2 : VX → VM} {ms : Exn → AM} {Fs : VX → VAM} {t : Exn → TM} {Ft : VX → VTM} {b : SM} {G : VSM} {bs : Exn → SM} {Gs : VX → VSM}
def vRaise (x : Str) (fs : List Str) (a : VAM) : VSM := fun env P => a env (fun vs => vs.length = fs.length ∧ P.ex ⟨x, (fs.zip vs).reverse⟩ env) (fun x => P.ex x env)
theorem s_raise {x : Str} {fs : List Str} {ms : AM} {Fs : VAM} (j : JA ms Fs) : JS fr (sRaise x fs ms) (vRaise x fs Fs) := fun h c S0 A0 A ρ S env P I f => by
  refine wsx_of ((j h c S0 A0 A ρ S env _ _ I f).mono ?_ fun e S' ⟨a, z⟩ => VQ.exn I a z)
  rintro ds S' ⟨a, vs, r, hl, q⟩
  show WS (if ds.length = fs.length then .ex ⟨x, (fs.zip ds).reverse⟩ ρ S' else .stk) _
  rw [if_pos (by rw [r.len]; exact hl)]
  exact VQ.exn I a ⟨_, ⟨rfl, RVf.rev (RVf.zip fs r)⟩, q⟩
def JX (m : Exn → EM) (F : VX → VM) : Prop := ∀ (h c : Nat) (S0 : Sto) (A0 A : List Nat) (ρ : Ev) (S : Sto) (env : VEnv) (Q : Vl → Prop) (E : VX → Prop) (z : Exn) (x : VX), VI h c S0 A0 A ρ S env → RXx h A S x z → F x env Q E →
  WX' (m z ρ S) (fun d S' => Adv h c S S' ∧ ∃ v, RV h A S' v d ∧ Q v) fun e S' => Adv h c S S' ∧ ∃ x, RXx h A S' x e ∧ E x
def JXA (m : Exn → AM) (F : VX → VAM) : Prop := ∀ (h c : Nat) (S0 : Sto) (A0 A : List Nat) (ρ : Ev) (S : Sto) (env : VEnv) (Q : List Vl → Prop) (E : VX → Prop) (z : Exn) (x : VX), VI h c S0 A0 A ρ S env → RXx h A S x z → F x env Q E →
  WX' (m z ρ S) (fun d S' => Adv h c S S' ∧ ∃ v, RVs h A S' v d ∧ Q v) fun e S' => Adv h c S S' ∧ ∃ x, RXx h A S' x e ∧ E x
def JXT (m : Exn → TM) (F : VX → VTM) : Prop := ∀ (h c : Nat) (S0 : Sto) (A0 A : List Nat) (ρ : Ev) (S : Sto) (env : VEnv) (Q : Bool → Prop) (E : VX → Prop) (z : Exn) (x : VX), VI h c S0 A0 A ρ S env → RXx h A S x z → F x env Q E →
  WX' (m z ρ S) (fun d S' => Adv h c S S' ∧ Q d) fun e S' => Adv h c S S' ∧ ∃ x, RXx h A S' x e ∧ E x
def JXS (fr : Bool) (m : Exn → SM) (F : VX → VSM) : Prop := ∀ (h c : Nat) (S0 : Sto) (A0 A : List Nat) (ρ : Ev) (S : Sto) (env : VEnv) (P : VP) (z : Exn) (x : VX), VI h c S0 A0 A ρ S env → RXx h A S x z → F x env P → WS (m z ρ S) (VQ fr h c S0 A0 A S P)
theorem x_of {m : EM} {F : VM} (j : JE m F) : JX (fun _ => m) (fun _ => F) := fun h c S0 A0 A ρ S env Q E z x I _ f => j h c S0 A0 A ρ S env Q E I f
def vXf (yes : List Str) (f : Str) : VX → VM := fun x _ Q _ => if x.C ∈ yes then vO (x.fs.lookup f) Q else False
theorem x_fld {yes : List Str} {f : Str} : JX (mXf yes f) (vXf yes f) := fun h c S0 A0 A ρ S env Q E z x I rx ff => by
  unfold vXf at ff
  unfold mXf
  rw [rx.1]
  split at ff
  · rename_i hy
    rw [if_pos hy]
    obtain ⟨v, e, q⟩ := vO_elim ff
    obtain ⟨d, e', r⟩ := RVf.look rx.2 e
    rw [e']
    exact ⟨.refl I.hand, v, r, q⟩
  · exact ff.elim
def vXi (yes no : List Str) : VX → VM := fun x _ Q _ => if x.C ∈ yes then Q (.bl true) else if x.C ∈ no then Q (.bl false) else False
theorem x_isi {yes no : List Str} : JX (mXi yes no) (vXi yes no) := fun h c S0 A0 A ρ S env Q E z x I rx ff => by
  unfold vXi at ff
  unfold mXi
  rw [rx.1]
  split at ff
  · rename_i hy
    rw [if_pos hy]
    exact ⟨.refl I.hand, _, by simp only [RV], ff⟩
  · rename_i hy
    rw [if_neg hy]
    split at ff
    · rename_i hn
      rw [if_pos hn]
      exact ⟨.refl I.hand, _, by simp only [RV], ff⟩
    · exact ff.elim
theorem x_nil : JXA (fun _ => aNil) (fun _ => vNil) := fun h c S0 A0 A ρ S env Q E z x I rx f => ⟨.refl I.hand, [], .nil, f⟩
theorem x_cons (ja : JX m F) (jr : JXA ms Fs) : JXA (fun z => aCons (m z) (ms z)) (fun x => vCons (F x) (Fs x)) := fun h c S0 A0 A ρ S env Q E z x I rx f => by
  refine wx_bind ((ja h c S0 A0 A ρ S env _ E z x I rx f).mono ?_ fun e S' b => b)
  rintro y S1 ⟨a1, v, r1, f1⟩
  refine wx_bind ((jr h c S0 A0 A ρ S1 env _ E z x (I.go a1) (rx.mv (I.mvA a1)) f1).mono ?_ fun e S' ⟨b, z⟩ => ⟨a1.trans b, z⟩)
  rintro xs S2 ⟨a2, vs, r2, f2⟩
  exact ⟨a1.trans a2, v :: vs, .cons (RV.mv ((I.go a1).mvA a2) r1) r2, f2⟩
theorem x_tup (ja : JXA ms Fs) : JX (fun z => mTup (ms z)) (fun x => vTup (Fs x)) := fun h c S0 A0 A ρ S env Q E z x I rx f => by
  refine wx_bind ((ja h c S0 A0 A ρ S env _ E z x I rx f).mono ?_ fun e S' b => b)
  rintro xs S1 ⟨a1, vs, r1, hz, q⟩
  show WX' (if xs.length ≤ sizeLine then R.ok (D.tup xs) S1 else .stk) _ _
  rw [if_pos (by rw [r1.len]; exact hz)]
  exact ⟨a1, .tup vs, by simp only [RV]; exact ⟨xs, rfl, r1⟩, q⟩
theorem x_lst (ja : JXA ms Fs) : JX (fun z => mLst (ms z)) (fun x => vLst (Fs x)) := fun h c S0 A0 A ρ S env Q E z x I rx f => by
  refine wx_bind ((ja h c S0 A0 A ρ S env _ E z x I rx f).mono ?_ fun e S' b => b)
  rintro xs S1 ⟨a1, vs, r1, hz, q⟩
  show WX' (if xs.length ≤ sizeLine then R.ok (D.ref S1.length) (S1 ++ [Cell.lst xs]) else .stk) _ _
  rw [if_pos (by rw [r1.len]; exact hz)]
  have C := (I.go a1).ctx
  exact ⟨a1.trans (push_hand a1.1), .lst vs, (new_list C r1).rv C.lt, q⟩
theorem x_tru (j : JX m F) : JXT (fun z => mTru (m z)) (fun x => vTru (F x)) := fun h c S0 A0 A ρ S env Q E z x I rx ff => by
  refine wx_bind ((j h c S0 A0 A ρ S env _ E z x I rx ff).mono ?_ fun e S' b => b)
  rintro y S1 ⟨a1, v, r1, q⟩
  obtain ⟨k, e, q⟩ := vO_elim q
  rw [truV_ok (h := h) (c := c) (A := A) (.inl r1) e]
  exact ⟨a1, q⟩
theorem x_if (jt : JXT t Ft) (ja : JX m F) (jb : JX m2 F2) : JX (fun z => mIf (t z) (m z) (m2 z)) (fun x => vIf (Ft x) (F x) (F2 x)) := fun h c S0 A0 A ρ S env Q E z x I rx ff => by
  refine wx_bind ((jt h c S0 A0 A ρ S env _ E z x I rx ff).mono ?_ fun e S' b => b)
  rintro k S1 ⟨a1, q⟩
  cases k with
  | true => exact (ja h c S0 A0 A ρ S1 env Q E z x (I.go a1) (rx.mv (I.mvA a1)) q).mono (fun d S' ⟨b, z⟩ => ⟨a1.trans b, z⟩) fun e S' ⟨b, z⟩ => ⟨a1.trans b, z⟩
  | false => exact (jb h c S0 A0 A ρ S1 env Q E z x (I.go a1) (rx.mv (I.mvA a1)) q).mono (fun d S' ⟨b, z⟩ => ⟨a1.trans b, z⟩) fun e S' ⟨b, z⟩ => ⟨a1.trans b, z⟩
theorem x_set (i : Nat) (j : JX m F) : JXS fr (fun z => sSet i (m z)) (fun x => vSet false i (F x)) := fun h c S0 A0 A ρ S env P z x I rx f => by
  refine wsx_of ((j h c S0 A0 A ρ S env _ _ z x I rx f).mono ?_ fun e S' ⟨a, z⟩ => VQ.exn I a z)
  rintro d S' ⟨a, v, r, q⟩
  have : DL.mk false v = .sh v := rfl
  exact VQ.nxt ((I.go a).put i r) (I.mvA a) q
def vTry (i : Nat) (G : VSM) (yes no : List Str) (Gs : VX → VSM) : VSM := fun env P => G env { P with ex := fun x e1 => i < e1.length ∧
  (if x.C ∈ yes then Gs x (e1.set i none) { nx := fun e => P.nx (e.set i none), rt := P.rt, bk := fun e => P.bk (e.set i none), ct := fun e => P.ct (e.set i none) } else if x.C ∈ no then P.ex x e1 else False) }
theorem s_try (i : Nat) {yes no : List Str} (j : JS fr b G) (js : JXS fr bs Gs) : JS fr (sTry i b yes no bs) (vTry i G yes no Gs) := fun h c S0 A0 A ρ S env P I f => by
  have x := j h c S0 A0 A ρ S env _ I f
  unfold sTry
  cases e : b ρ S with
  | stk => rw [e] at x; exact x
  | nx ρ' S' => rw [e] at x; exact x
  | rt d S' => rw [e] at x; exact x
  | bk ρ' S' => rw [e] at x; exact x
  | ct ρ' S' => rw [e] at x; exact x
  | ex z ρ' S' =>
    rw [e] at x
    obtain ⟨A', env', I', mv, xx, rx, hi, q⟩ := x
    show WS (if i < ρ'.length then (if z.C ∈ yes then (bs z (ρ'.set i none) S').unset i else if z.C ∈ no then .ex z ρ' S' else .stk) else .stk) _
    rw [if_pos (by rw [I'.len]; exact hi), rx.1]
    split at q
    · rename_i hy
      rw [if_pos hy]
      have y := js h c S0 A0 A' _ S' _ _ z xx (I'.drop i none) rx q
      refine VQ.from mv ?_
      cases e2 : bs z (ρ'.set i none) S' with
      | stk => rw [e2] at y; exact y
      | rt d S2 => rw [e2] at y; exact y
      | nx ρ2 S2 =>
        rw [e2] at y
        obtain ⟨A2, env2, I2, mv2, q2⟩ := y
        exact ⟨A2, _, I2.drop i none, mv2, q2⟩
      | bk ρ2 S2 =>
        rw [e2] at y
        obtain ⟨A2, env2, I2, mv2, q2⟩ := y
        exact ⟨A2, _, I2.drop i none, mv2, q2⟩
      | ct ρ2 S2 =>
        rw [e2] at y
        obtain ⟨A2, env2, I2, mv2, q2⟩ := y
        exact ⟨A2, _, I2.drop i none, mv2, q2⟩
      | ex e3 ρ2 S2 =>
        rw [e2] at y
        obtain ⟨A2, env2, I2, mv2, x2, rx2, q2⟩ := y
        exact q2.elim
    · rename_i hy
      rw [if_neg hy]
      split at q
      · rename_i hn
        rw [if_pos hn]
        exact ⟨A', env', I', mv, xx, rx, q⟩
      · exact q.elim
end
end DL

/-! the V-layer: calls that only look at what they are handed; the law's end -/
namespace DL
open PySem L2
mutual
/-- no list, dict or instance within -/
def noRef : Vl → Bool
  | .non => true
  | .bl _ => true
  | .int _ => true
  | .str _ => true
  | .raw _ => true
  | .tup vs => noRefs vs
  | _ => false
def noRefs : List Vl → Bool
  | [] => true
  | v :: vs => noRef v && noRefs vs
end
section
variable {h : Nat} {A B : List Nat} {S S' : Sto}
mutual
theorem RV.any : ∀ {v : Vl} {d : D}, noRef v = true → RV h A S v d → RV h B S' v d
  | .non, d, _, r => by simpa only [RV] using r
  | .bl b, d, _, r => by simpa only [RV] using r
  | .int b, d, _, r => by simpa only [RV] using r
  | .str b, d, _, r => by simpa only [RV] using r
  | .raw b, d, _, r => by simpa only [RV] using r
  | .tup vs, d, e, r => by
    simp only [noRef] at e
    simp only [RV] at r ⊢
    obtain ⟨ds, q, r⟩ := r
    exact ⟨ds, q, RVs.any e r⟩
  | .hand, _, e, _ => by simp [noRef] at e
  | .scr _, _, e, _ => by simp [noRef] at e
  | .lst _, _, e, _ => by simp [noRef] at e
  | .dct _, _, e, _ => by simp [noRef] at e
  | .ins _ _, _, e, _ => by simp [noRef] at e
theorem RVs.any : ∀ {vs : List Vl} {ds : List D}, noRefs vs = true → RVs h A S vs ds → RVs h B S' vs ds
  | [], ds, _, r => by simpa only [RVs] using r
  | v :: vs, ds, e, r => by
    simp only [noRefs, Bool.and_eq_true] at e
    simp only [RVs] at r ⊢
    obtain ⟨d, q, z, a, b⟩ := r
    exact ⟨d, q, z, RV.any e.1 a, RVs.any e.2 b⟩
end
theorem RVf.any : ∀ {vs : List (Str × Vl)} {ds : List (Str × D)}, noRefs (vs.map (·.2)) = true → RVf h A S vs ds → RVf h B S' vs ds
  | [], ds, _, r => by simpa only [RVf] using r
  | (x, v) :: vs, ds, e, r => by
    simp only [List.map_cons, noRefs, Bool.and_eq_true] at e
    simp only [RVf] at r ⊢
    obtain ⟨d, q, z, a, b⟩ := r
    exact ⟨d, q, z, RV.any e.1 a, RVf.any e.2 b⟩
theorem isC_noRef {v : Vl} (e : noRef v = true) : isC v = false := by
  cases v <;> first | rfl | simp [noRef] at e
end
section
variable {h c : Nat} {A A0 B : List Nat} {S S0 S' S1 : Sto} {v w : Vl} {d : D} {ρ : Ev} {env : VEnv} {ms mk : AM} {Fs Fk : VAM}
theorem LK.lend (C : Ctx h c A S) (r : LK h c A S v d) : RV h [h, c] S v d := by
  have sb : ∀ n, n ∈ [h, c] → n ∈ A := fun n hn => by
    rcases List.mem_cons.mp hn with rfl | hn
    · exact C.hA
    · rw [List.mem_singleton.mp hn]; exact C.cA
  rcases r with r | ⟨n, rfl, _, hn, r⟩
  · exact RV.mv (Mv.sub sb) r
  · exact r.free sb hn
theorem LKs.lend (C : Ctx h c A S) : ∀ {vs : List Vl} {ds : List D}, LKs h c A S vs ds → RVs h [h, c] S vs ds
  | [], ds, r => by simp only [LKs] at r; subst r; exact .nil
  | v :: vs, ds, r => by
    simp only [LKs] at r
    obtain ⟨d, q, rfl, a, b⟩ := r
    exact .cons (a.lend C) (LKs.lend C b)
theorem Ctx.least (C : Ctx h c A S) : Ctx h c [h, c] S := ⟨C.hand, by simp, by simp, fun n hn => C.lt n (by
  rcases List.mem_cons.mp hn with rfl | hn
  · exact C.hA
  · rw [List.mem_singleton.mp hn]; exact C.cA)⟩
/-- a call that only looks at what it is handed: nothing within its result can be changed -/
def vCallB (n : Nat) (F : VF) (a : VAM) : VM := fun env Q E => a env (fun xs => xs.length = n ∧ F xs (fun v => noRef v = true ∧ Q v) (fun x => noRefs (x.fs.map (·.2)) = true ∧ E x)) E
theorem f_callB {n : Nat} {f : FM} {F : VF} (jf : JFn f F) (ja : JAp ms Fs) : JF (mCall n f ms) (vCallB n F Fs) := fun h c S0 A0 A ρ S env Q E I ff => by
  refine wx_bind ((ja h c S0 A0 A ρ S env _ E I ff).mono ?_ fun e S' b => b)
  rintro xs S1 ⟨a1, vs, r1, hz, q⟩
  have C := (I.go a1).ctx
  have hl : xs.length = n := by rw [(r1.lend C).len]; exact hz
  show WX' (if xs.length = n then f xs S1 else .stk) _ _
  rw [if_pos hl]
  refine (jf h c [h, c] S1 vs xs _ _ C.least (r1.lend C) q).mono ?_ ?_
  · rintro d S2 ⟨b, v, r, e, q⟩
    exact ⟨a1.trans b, v, .inl ⟨isC_noRef e, r.any e⟩, q⟩
  · rintro e S2 ⟨b, x, rx, en, q⟩
    exact ⟨a1.trans b, x, ⟨rx.1, RVf.any en rx.2⟩, q⟩
end
def vDct0 : VM := fun _ Q _ => Q (.dct [])
theorem f_dct0 : JF mDct0 vDct0 := fun h c S0 A0 A ρ S env Q E I f => by
  refine ⟨push_hand I.hand, .dct [], .inr ⟨S.length, rfl, Nat.le_refl _, [], ?_, by simp only [RVk]⟩, f⟩
  simp
/-- THE LAW'S END on values: behind the hand -/
theorem law_V {b0 b1 b2 b3 b4 : Int} (ok : HandOk b1 b2 b4 = true) {m : SM} {G : VSM} (j : JS false m G) (n : Nat) {ns : List Int} (hn : ns.length ≤ 63)
    (f : G (some (.sh (.scr ns)) :: some (.sh .hand) :: List.replicate n none) { nx := fun _ => False, rt := fun v => v = .bl true }) :
    ∃ S', runB (n + 2) (sSeq (sSet 1 (mCall 1 (runB 4 (mHand b0 b1 b2 b3 b4)) (aCons (mVar 0) aNil))) m) [.ref 0] [.fz (ns.map D.int)] = .ok (.bl true) S' := by
  have x := hand_ok2 (b0 := b0) (b3 := b3) ok hn
  obtain ⟨r, S1, e, h, c, rfl, hd, h0, c0, z0⟩ := x.elim
  have e0 : startE (n + 2) [D.ref 0] = some (.ref 0) :: none :: List.replicate n none := by
    unfold startE
    simp [List.replicate_succ]
  have e1 : sSet 1 (mCall 1 (runB 4 (mHand b0 b1 b2 b3 b4)) (aCons (mVar 0) aNil)) (startE (n + 2) [D.ref 0]) [.fz (ns.map D.int)] = .nx (some (.ref 0) :: some (.ref h) :: List.replicate n none) S1 := by
    rw [e0]
    unfold sSet
    simp only [r_Call, r_Cons, r_Nil, r_V, List.getElem?_cons_zero, bind_ok, List.length_cons, List.length_nil, Nat.zero_add, if_true, e, bindS_ok, List.set_cons_succ, List.set_cons_zero]
  have I : VI h c S1 [h, c] [h, c] (some (.ref 0) :: some (.ref h) :: List.replicate n none) S1 (some (.sh (.scr ns)) :: some (.sh .hand) :: List.replicate n none) := by
    have hl := hd.lt
    refine { h0 := hd, adv := .refl hd, hA := by simp, cA := by simp, lt0 := fun k hk => ?_, sub := fun _ z => z, lt := fun k hk => ?_, new := fun _ z => .inl z, len := by simp, sh := fun i v e => ?_, ow := fun i v e => ?_, inj := fun i j u v n e1 e2 e3 e4 => ?_ }
    · simp only [List.mem_cons, List.not_mem_nil, or_false] at hk
      omega
    · simp only [List.mem_cons, List.not_mem_nil, or_false] at hk
      omega
    · match i, e with
      | 0, e =>
        simp only [List.getElem?_cons_zero, Option.some.injEq, VS.sh.injEq] at e
        subst e
        exact ⟨_, rfl, by simp only [RV]; exact ⟨0, rfl, by simp [h0, c0], z0⟩⟩
      | 1, e =>
        simp only [List.getElem?_cons_succ, List.getElem?_cons_zero, Option.some.injEq, VS.sh.injEq] at e
        subst e
        exact ⟨_, rfl, by simp only [RV]⟩
      | i + 2, e =>
        simp only [List.getElem?_cons_succ, List.getElem?_replicate] at e
        split at e <;> simp at e
    · match i, e with
      | 0, e => simp at e
      | 1, e => simp at e
      | i + 2, e =>
        simp only [List.getElem?_cons_succ, List.getElem?_replicate] at e
        split at e <;> simp at e
    · match i, e1 with
      | 0, e => simp at e
      | 1, e => simp at e
      | i + 2, e =>
        simp only [List.getElem?_cons_succ, List.getElem?_replicate] at e
        split at e <;> simp at e
  have y := j h c S1 [h, c] [h, c] _ S1 _ _ I f
  have e2 : runB (n + 2) (sSeq (sSet 1 (mCall 1 (runB 4 (mHand b0 b1 b2 b3 b4)) (aCons (mVar 0) aNil))) m) [.ref 0] [.fz (ns.map D.int)] = retOf (m (some (.ref 0) :: some (.ref h) :: List.replicate n none) S1) := by
    show retOf ((sSet 1 (mCall 1 (runB 4 (mHand b0 b1 b2 b3 b4)) (aCons (mVar 0) aNil)) (startE (n + 2) [D.ref 0]) [.fz (ns.map D.int)]).seq m) = _
    rw [e1]
    rfl
  rw [e2]
  cases em : m (some (.ref 0) :: some (.ref h) :: List.replicate n none) S1 with
  | stk => rw [em] at y; exact y.elim
  | nx ρ S' => rw [em] at y; obtain ⟨_, _, _, _, z⟩ := y; exact z.elim
  | bk ρ S' => rw [em] at y; obtain ⟨_, _, _, _, z⟩ := y; exact z.elim
  | ct ρ S' => rw [em] at y; obtain ⟨_, _, _, _, z⟩ := y; exact z.elim
  | ex z ρ S' => rw [em] at y; obtain ⟨_, _, _, _, _, _, z⟩ := y; exact z.elim
  | rt d S' =>
    rw [em] at y
    obtain ⟨_, v, r, rfl⟩ := y
    rw [if_neg (by decide)] at r
    simp only [RV] at r
    subst r
    exact ⟨S', rfl⟩
end DL

/-! the V-layer: laws for the plain side -/
namespace DL
open PySem L2
section
variable {t : Tg} {b : VSM} {P : VP} {env : VEnv} {k : VTM} {el : VM}
theorem loop_inv {J : VEnv → Prop} : ∀ {vs : List Vl} {env : VEnv}, J env →
    (∀ v ∈ vs, ∀ (env : VEnv) (K : VEnv → Prop), J env → (∀ e, J e → K e) → vO (t.putV v env) fun e1 => b e1 { P with nx := K, ct := K, bk := P.nx }) → (∀ e, J e → P.nx e) → vLoop t b vs env P
  | [], env, h0, _, fin => fin env h0
  | v :: vs, env, h0, step, fin => by
    unfold vLoop
    exact step v List.mem_cons_self env _ h0 fun e he => loop_inv he (fun u hu => step u (List.mem_cons_of_mem _ hu)) fin
/-- .. by how many items have been walked -/
theorem loop_at {J : Nat → VEnv → Prop} : ∀ (vs : List Vl) (i : Nat) {env : VEnv}, J i env →
    (∀ (j : Nat) (v : Vl) (env : VEnv) (K : VEnv → Prop), vs[j]? = some v → J (i + j) env → (∀ e, J (i + j + 1) e → K e) → vO (t.putV v env) fun e1 => b e1 { P with nx := K, ct := K, bk := P.nx }) → (∀ e, J (i + vs.length) e → P.nx e) → vLoop t b vs env P
  | [], i, env, h0, _, fin => fin env h0
  | v :: vs, i, env, h0, step, fin => by
    unfold vLoop
    refine step 0 v env _ rfl h0 fun e he => loop_at vs (i + 1) he (fun j u e K hj hJ hK => ?_) fun e he => fin e (by rw [List.length_cons]; rwa [show i + 1 + vs.length = i + (vs.length + 1) by omega] at he)
    refine step (j + 1) u e K (by simpa using hj) (by rwa [show i + 1 + j = i + (j + 1) by omega] at hJ) fun e' he' => hK e' (by rwa [show i + (j + 1) + 1 = i + 1 + j + 1 by omega] at he')
/-- a comprehension whose items are known -/
theorem lc_map {kb : Vl → Bool} {g : Vl → Vl} : ∀ {vs : List Vl} {acc : List Vl} {Q : List Vl → Prop}, Q (acc ++ (vs.filter kb).map g) →
    (∀ v ∈ vs, ∀ Q1 : Vl → Prop, ∀ Q2 : Prop, (kb v = true → Q1 (g v)) → (kb v = false → Q2) → vO (t.putV v env) fun e1 => k e1 (fun b => if b = true then el e1 Q1 (fun _ => False) else Q2) (fun _ => False)) → vLcG t k el env vs acc Q
  | [], acc, Q, q, _ => by
    unfold vLcG
    simpa using q
  | v :: vs, acc, Q, q, h => by
    unfold vLcG
    refine h v List.mem_cons_self _ _ (fun hk => ?_) fun hk => ?_
    · refine lc_map ?_ fun u hu => h u (List.mem_cons_of_mem _ hu)
      rw [List.filter_cons, if_pos hk, List.map_cons] at q
      simpa using q
    · refine lc_map ?_ fun u hu => h u (List.mem_cons_of_mem _ hu)
      rw [List.filter_cons, hk] at q
      simpa using q
/-- a comprehension of values of a sort -/
theorem lc_all {Pv : Vl → Prop} : ∀ {vs : List Vl} {acc : List Vl} {Q : List Vl → Prop}, (∀ y ∈ acc, Pv y) → (∀ ys : List Vl, (∀ y ∈ ys, Pv y) → ys.length ≤ acc.length + vs.length → Q ys) →
    (∀ v ∈ vs, ∀ Q1 : Vl → Prop, ∀ Q2 : Prop, (∀ y, Pv y → Q1 y) → Q2 → vO (t.putV v env) fun e1 => k e1 (fun b => if b = true then el e1 Q1 (fun _ => False) else Q2) (fun _ => False)) → vLcG t k el env vs acc Q
  | [], acc, Q, ha, q, _ => by
    unfold vLcG
    exact q acc ha (by simp)
  | v :: vs, acc, Q, ha, q, h => by
    unfold vLcG
    refine h v List.mem_cons_self _ _ (fun y hy => ?_) ?_
    · refine lc_all (fun z hz => ?_) (fun ys h1 h2 => q ys h1 (by simp only [List.length_append, List.length_cons, List.length_nil] at h2 ⊢; omega)) fun u hu => h u (List.mem_cons_of_mem _ hu)
      rcases List.mem_append.mp hz with hz | hz
      · exact ha z hz
      · rw [List.mem_singleton.mp hz]; exact hy
    · exact lc_all ha (fun ys h1 h2 => q ys h1 (by simp only [List.length_cons] at h2 ⊢; omega)) fun u hu => h u (List.mem_cons_of_mem _ hu)
/-- .. without a test: one value each -/
theorem lc_each {Pv : Vl → Prop} : ∀ {vs : List Vl} {acc : List Vl} {Q : List Vl → Prop}, (∀ y ∈ acc, Pv y) → (∀ ys : List Vl, (∀ y ∈ ys, Pv y) → ys.length = acc.length + vs.length → Q ys) →
    (∀ v ∈ vs, ∀ Q1 : Vl → Prop, (∀ y, Pv y → Q1 y) → vO (t.putV v env) fun e1 => el e1 Q1 (fun _ => False)) → vLcG t vtTrue el env vs acc Q
  | [], acc, Q, ha, q, _ => by
    unfold vLcG
    exact q acc ha (by simp)
  | v :: vs, acc, Q, ha, q, h => by
    unfold vLcG
    simp only [vtTrue, if_true]
    refine h v List.mem_cons_self _ fun y hy => ?_
    refine lc_each (fun z hz => ?_) (fun ys h1 h2 => q ys h1 (by simp only [List.length_append, List.length_cons, List.length_nil] at h2 ⊢; omega)) fun u hu => h u (List.mem_cons_of_mem _ hu)
    rcases List.mem_append.mp hz with hz | hz
    · exact ha z hz
    · rw [List.mem_singleton.mp hz]; exact hy
/-- while: by what is left -/
theorem wh_step {tt : VTM} {f : Nat} (h : tt env (fun k => if k = true then b env { P with nx := fun e => vWh tt b f e P, ct := fun e => vWh tt b f e P, bk := P.nx } else P.nx env) (fun x => P.ex x env)) : vWh tt b (f + 1) env P := h
end
/-- .. what stands behind the body left open -/
theorem wh_next {t : VTM} {b : VSM} {P : VP} {env : VEnv} {f : Nat} (h : ∀ K : VEnv → Prop, (∀ e, vWh t b f e P → K e) → t env (fun k => if k = true then b env { P with nx := K, ct := K, bk := P.nx } else P.nx env) (fun x => P.ex x env)) : vWh t b (f + 1) env P := h _ fun _ z => z
/-! values -/
theorem visi_s (x : Str) : isiV [.str x, .raw (.ty "str")] = some (.bl true) := rfl
theorem visi_n {v : Vl} {T : String} {t : String} {r : Bool} (h : tyVl v = some t) (k : kitB t T = some r) : isiV [v, .raw (.ty T)] = some (.bl r) := by
  show ((tyVl v).bind fun t => (kitB t T).map fun b => Vl.bl b) = _
  rw [h]
  show (kitB t T).map _ = _
  rw [k]; rfl
theorem vlen_s {x : Str} (h : x.length ≤ sizeLine) : lenV [.str x] = some (.int x.length) := if_pos h
theorem vin_c (c : Nat) (z : Str) : inV (.str ⟨#[c]⟩) (.str z) = some (.bl (decide (c ∈ z.cps.toList))) := rfl
theorem veq_s (a b : Str) : eqV (.str a) (.str b) = some (.bl (decide (a = b))) := by
  show some (Vl.bl (decide (V.str a = V.str b))) = _
  congr 2
  simp
theorem vne_s (a b : Str) : neV (.str a) (.str b) = some (.bl (!decide (a = b))) := by
  show some (Vl.bl (!decide (V.str a = V.str b))) = _
  congr 3
  simp
theorem veq_i (a b : Int) : eqV (.int a) (.int b) = some (.bl (decide (a = b))) := by
  show some (Vl.bl (decide (V.int a = V.int b))) = _
  congr 2
  simp
theorem vle_i (a b : Int) : leV (.int a) (.int b) = some (.bl (decide (a ≤ b))) := rfl
theorem vle_s (a b : Str) : leV (.str a) (.str b) = some (.bl (!strLt b a)) := rfl
theorem vadd_i (a b : Int) : addV (.int a) (.int b) = some (.int (a + b)) := rfl
theorem vsub_i (a b : Int) : subV (.int a) (.int b) = some (.int (a - b)) := rfl
theorem vneg_i (a : Int) : negV (.int a) = some (.int (-a)) := rfl
theorem vadd_s {a b : Str} (h : a.length + b.length ≤ sizeLine) : addV (.str a) (.str b) = some (.str (a ++ b)) := if_pos h
theorem vsl_s {z : Str} (h : z.length ≤ sizeLine) (lo hi : Option Int) : slV (.str z) lo hi = some (.str (cutS z lo hi)) := if_pos h
end DL

/-! the V-layer: *xs in a display, a, b, c = x, y, z, defaults -/
namespace DL
open PySem L2
section
variable {h c : Nat} {A A0 B : List Nat} {S S0 S' S1 : Sto} {v w : Vl} {d : D} {ρ : Ev} {env : VEnv} {m : EM} {F : VM} {ms : AM} {Fs : VAM} {fr : Bool}
def vStar (a : VM) (r : VAM) : VAM := fun env Q E => a env (fun x => vO (listV x) fun ys => r env (fun zs => Q (ys ++ zs)) E) E
theorem a_star (ja : JP m F) (jr : JA ms Fs) : JA (aStar m ms) (vStar F Fs) := fun h c S0 A0 A ρ S env Q E I f => by
  refine wx_bind ((ja h c S0 A0 A ρ S env _ E I f).mono ?_ fun e S' b => b)
  rintro x S1 ⟨a1, v, r1, f1⟩
  obtain ⟨ys, ey, f1⟩ := vO_elim f1
  obtain ⟨ds, ed, rr⟩ := listV_ok r1 ey
  simp only [ed]
  refine wx_bind ((jr h c S0 A0 A ρ S1 env _ E (I.go a1) f1).mono ?_ fun e S' ⟨b, z⟩ => ⟨a1.trans b, z⟩)
  rintro zs S2 ⟨a2, vs, r2, f2⟩
  exact ⟨a1.trans a2, ys ++ vs, (RVs.mv ((I.go a1).mvA a2) rr).app r2, f2⟩
def vPar3 (i j l : Nat) (Fs : VAM) : VSM := fun env P => Fs env (fun vs => match vs with
  | [a, b, c] => P.nx (((env.set i (some (.sh a))).set j (some (.sh b))).set l (some (.sh c)))
  | _ => False) (fun x => P.ex x env)
theorem s_par3 (i j l : Nat) (ja : JA ms Fs) : JS fr (sPar3 i j l ms) (vPar3 i j l Fs) := fun h c S0 A0 A ρ S env P I f => by
  refine wsx_of ((ja h c S0 A0 A ρ S env _ _ I f).mono ?_ fun e S' ⟨a, z⟩ => VQ.exn I a z)
  rintro ds S' ⟨a, vs, r, q⟩
  match vs, q with
  | [u, v, w], q =>
    simp only [RVs] at r
    obtain ⟨d1, _, rfl, r1, d2, _, rfl, r2, d3, _, rfl, r3, rfl⟩ := r
    exact VQ.nxt ((((I.go a).put i r1).put j r2).put l r3) (I.mvA a) q
def vCallD (n : Nat) (F : VF) (dfl : List Vl) (a : VAM) : VM := fun env Q E => a env (fun xs => (xs ++ dfl).length = n ∧ F (xs ++ dfl) Q E) E
theorem j_callD {n : Nat} {f : FM} {F : VF} {dd : List D} {dv : List Vl} (jf : JFn f F) (rd : ∀ h A S, RVs h A S dv dd) (ja : JA ms Fs) : JE (mCallD n f dd ms) (vCallD n F dv Fs) := fun h c S0 A0 A ρ S env Q E I ff => by
  refine wx_bind ((ja h c S0 A0 A ρ S env _ E I ff).mono ?_ fun e S' b => b)
  rintro xs S1 ⟨a1, vs, r1, hz, q⟩
  have rr := r1.app (rd h A S1)
  show WX' (if (xs ++ dd).length = n then f (xs ++ dd) S1 else .stk) _ _
  rw [if_pos (by rw [rr.len]; exact hz)]
  exact (jf h c A S1 _ _ Q E (I.go a1).ctx rr q).mono (fun d S'' ⟨b, z⟩ => ⟨a1.trans b, z⟩) fun e S'' ⟨b, z⟩ => ⟨a1.trans b, z⟩
theorem vadd_l {xs ys : List Vl} (h : xs.length + ys.length ≤ sizeLine) : addV (.lst xs) (.lst ys) = some (.lst (xs ++ ys)) := if_pos h
end
end DL

/-! the V-layer: steps for the plain side; what repr takes -/
namespace DL
open PySem L2
/-! the same functions, to be unfolded at sight -/
abbrev wC (v : Vl) : VM := fun _ Q _ => Q v
abbrev wBin (g : Vl → Vl → Option Vl) (a b : VM) : VM := fun env Q E => a env (fun x => b env (fun y => vO (g x y) Q) E) E
abbrev wUn (g : Vl → Option Vl) (a : VM) : VM := fun env Q E => a env (fun x => vO (g x) Q) E
abbrev wNil : VAM := fun _ Q _ => Q []
abbrev wCons (a : VM) (r : VAM) : VAM := fun env Q E => a env (fun x => r env (fun xs => Q (x :: xs)) E) E
abbrev wTup (a : VAM) : VM := fun env Q E => a env (fun xs => xs.length ≤ sizeLine ∧ Q (.tup xs)) E
abbrev wLst (a : VAM) : VM := fun env Q E => a env (fun xs => xs.length ≤ sizeLine ∧ Q (.lst xs)) E
abbrev wCB (g : List Vl → Option Vl) (a : VAM) : VM := fun env Q E => a env (fun xs => vO (g xs) Q) E
abbrev wCall (n : Nat) (F : VF) (a : VAM) : VM := fun env Q E => a env (fun xs => xs.length = n ∧ F xs Q E) E
abbrev wCallK (n : Nat) (F : VF) (perm : List (Bool × Nat)) (a b : VAM) : VM := fun env Q E => a env (fun xs => b env (fun ys => (pick perm xs ys).length = n ∧ F (pick perm xs ys) Q E) E) E
abbrev wTru (a : VM) : VTM := fun env Q E => a env (fun v => vO (truV v) Q) E
abbrev wTest (a : VM) : VTM := fun env Q E => a env (fun v => match v with | .bl b => Q b | _ => False) E
abbrev wtAnd (a b : VTM) : VTM := fun env Q E => a env (fun k => if k = true then b env Q E else Q false) E
abbrev wtOr (a b : VTM) : VTM := fun env Q E => a env (fun k => if k = true then Q true else b env Q E) E
abbrev wtNot (a : VTM) : VTM := fun env Q E => a env (fun k => Q (!k)) E
abbrev wtTrue : VTM := fun _ Q _ => Q true
abbrev wIf (t : VTM) (a b : VM) : VM := fun env Q E => t env (fun k => if k = true then a env Q E else b env Q E) E
abbrev wAnd (a b : VM) : VM := fun env Q E => a env (fun v => vO (truV v) fun k => if k = true then b env Q E else Q v) E
abbrev wOr (a b : VM) : VM := fun env Q E => a env (fun v => vO (truV v) fun k => if k = true then Q v else b env Q E) E
abbrev wNot (a : VM) : VM := fun env Q E => a env (fun v => vO (truV v) fun k => Q (.bl (!k))) E
abbrev wChain (f g : Vl → Vl → Option Vl) (a b cc : VM) : VM := fun env Q E => a env (fun x => b env (fun y => vO (f x y) fun z => match z with
  | .bl true => cc env (fun w => vO (g y w) Q) E
  | .bl false => Q (.bl false)
  | _ => False) E) E
abbrev wSeq (a b : VSM) : VSM := fun env P => a env { P with nx := fun e => b e P }
abbrev wSet (fr : Bool) (i : Nat) (F : VM) : VSM := fun env P => F env (fun v => P.nx (env.set i (some (mk fr v)))) (fun x => P.ex x env)
abbrev wDrop (F : VM) : VSM := fun env P => F env (fun _ => P.nx env) (fun x => P.ex x env)
abbrev wRet (F : VM) : VSM := fun env P => F env P.rt (fun x => P.ex x env)
abbrev wRetN : VSM := fun _ P => P.rt .non
abbrev wNext : VSM := fun env P => P.nx env
abbrev wBreak : VSM := fun env P => P.bk env
abbrev wCont : VSM := fun env P => P.ct env
abbrev wIfS (t : VTM) (a b : VSM) : VSM := fun env P => t env (fun k => if k = true then a env P else b env P) (fun x => P.ex x env)
abbrev wFrz (i : Nat) (G : VSM) : VSM := fun env P => G (frz1 env i) P
abbrev wPar (f1 f2 : Bool) (i j : Nat) (Fa Fb : VM) : VSM := fun env P => Fa env (fun x => Fb env (fun y => P.nx ((env.set i (some (mk f1 x))).set j (some (mk f2 y)))) (fun e => P.ex e env)) (fun e => P.ex e env)
abbrev wAsg (t : Tg) (F : VM) : VSM := fun env P => F env (fun v => vO (t.putV v env) P.nx) (fun x => P.ex x env)
abbrev wiAny (F : VM) : VIM := fun env Q E => F env (fun v => vO (itemsV v) Q) E
abbrev wiRg1 (F : VAM) : VIM := fun env Q E => F env (fun vs => match vs with | [.int j] => inR j = true ∧ Q (intsV 0 j.toNat) | _ => False) E
abbrev wiRg2 (F : VAM) : VIM := fun env Q E => F env (fun vs => match vs with | [.int i, .int j] => (inR i && inR j) = true ∧ Q (intsV i (j - i).toNat) | _ => False) E
abbrev wiEn (F : VAM) : VIM := fun env Q E => F env (fun vs => match vs with | [.lst xs] => Q (enumV xs) | _ => False) E
abbrev wiZp (F : VAM) : VIM := fun env Q E => F env (fun vs => match vs with | [.lst xs, .lst ys] => Q (zipV xs ys) | [.tup xs, .tup ys] => Q (zipV xs ys) | _ => False) E
abbrev wiZpS (F : VAM) : VIM := fun env Q E => F env (fun vs => match vs with | [.tup xs, .tup ys] => xs.length = ys.length ∧ Q (zipV xs ys) | _ => False) E
abbrev wFor (s : VIM) (t : Tg) (b : VSM) : VSM := fun env P => s env (fun vs => vs.length < 2 ^ 24 ∧ vLoop t b vs env P) (fun x => P.ex x env)
abbrev wLc (s : VIM) (t : Tg) (k : VTM) (el : VM) (sl : List Nat) : VM := fun env Q E => s env (fun vs => vs.length < 2 ^ 24 ∧ vLcG t k el (wipeV env sl) vs [] (fun xs => Q (.lst xs))) E
abbrev wApp (i : Nat) (F : VM) : VSM := fun env P => vO (ownL env i) fun xs => F env (fun v => xs.length < sizeLine ∧ P.nx (env.set i (some (.ow (.lst (xs ++ [v])))))) (fun x => P.ex x env)
abbrev wExt (i : Nat) (F : VM) : VSM := fun env P => vO (ownL env i) fun xs => F env (fun v => match v with | .lst ys => xs.length + ys.length ≤ sizeLine ∧ P.nx (env.set i (some (.ow (.lst (xs ++ ys))))) | _ => False) (fun x => P.ex x env)
abbrev wPop (j i : Nat) : VSM := fun env P => vO (ownL env i) fun xs => vO xs.getLast? fun x => P.nx ((env.set i (some (.ow (.lst xs.dropLast)))).set j (some (.sh x)))
abbrev wPopD (i : Nat) : VSM := fun env P => vO (ownL env i) fun xs => vO xs.getLast? fun x => P.nx (env.set i (some (.ow (.lst xs.dropLast))))
abbrev wMt (k : Rc) (g : Vl → List Vl → Option Vl) (Fo : VM) (Fs : VAM) : VM := fun env Q E => Fo env (fun o => isRc k o = true ∧ Fs env (fun xs => vO (g o xs) Q) E) E
abbrev wRun (n : Nat) (G : VSM) : VF := fun vs Q E => G (startV n vs) { nx := fun _ => Q .non, rt := Q, ex := fun x _ => E x }
abbrev woNone : VOM := fun _ Q _ => Q none
abbrev woSome (F : VM) : VOM := fun env Q E => F env (fun v => match v with | .int i => Q (some i) | _ => False) E
abbrev wSl (F : VM) (l u : VOM) : VM := fun env Q E => F env (fun v => l env (fun lo => u env (fun hi => vO (slV v lo hi) Q) E) E) E
abbrev wRaise (x : Str) (fs : List Str) (a : VAM) : VSM := fun env P => a env (fun vs => vs.length = fs.length ∧ P.ex ⟨x, (fs.zip vs).reverse⟩ env) (fun x => P.ex x env)
abbrev wXf (yes : List Str) (f : Str) : VX → VM := fun x _ Q _ => if x.C ∈ yes then vO (x.fs.lookup f) Q else False
abbrev wXi (yes no : List Str) : VX → VM := fun x _ Q _ => if x.C ∈ yes then Q (.bl true) else if x.C ∈ no then Q (.bl false) else False
abbrev wTry (i : Nat) (G : VSM) (yes no : List Str) (Gs : VX → VSM) : VSM := fun env P => G env { P with ex := fun x e1 => i < e1.length ∧
  (if x.C ∈ yes then Gs x (e1.set i none) { nx := fun e => P.nx (e.set i none), rt := P.rt, bk := fun e => P.bk (e.set i none), ct := fun e => P.ct (e.set i none) } else if x.C ∈ no then P.ex x e1 else False) }
abbrev wCallB (n : Nat) (F : VF) (a : VAM) : VM := fun env Q E => a env (fun xs => xs.length = n ∧ F xs (fun v => noRef v = true ∧ Q v) (fun x => noRefs (x.fs.map (·.2)) = true ∧ E x)) E
abbrev wDct0 : VM := fun _ Q _ => Q (.dct [])
abbrev wStar (a : VM) (r : VAM) : VAM := fun env Q E => a env (fun x => vO (listV x) fun ys => r env (fun zs => Q (ys ++ zs)) E) E
abbrev wPar3 (i j l : Nat) (Fs : VAM) : VSM := fun env P => Fs env (fun vs => match vs with
  | [a, b, c] => P.nx (((env.set i (some (.sh a))).set j (some (.sh b))).set l (some (.sh c)))
  | _ => False) (fun x => P.ex x env)
abbrev wCallD (n : Nat) (F : VF) (dfl : List Vl) (a : VAM) : VM := fun env Q E => a env (fun xs => (xs ++ dfl).length = n ∧ F (xs ++ dfl) Q E) E
section
variable {env : VEnv} {Q : Vl → Prop} {E : VX → Prop} {P : VP} {i : Nat} {v : Vl} {fr : Bool}
theorem st_var (h : env[i]? = some (some (.sh v))) (q : Q v) : vVar i env Q E := by unfold vVar; rw [h]; exact q
theorem st_pk (h : env[i]? = some (some (.sh v))) (q : Q v) : vPk i env Q E := by unfold vPk; rw [h]; exact q
theorem st_pko (h : env[i]? = some (some (.ow v))) (q : Q v) : vPk i env Q E := by unfold vPk; rw [h]; exact q
theorem st_O {α : Type} {o : Option α} {r : α} {Q : α → Prop} (h : o = some r) (q : Q r) : vO o Q := by rw [h]; exact q
theorem st_retV (h : env[i]? = some (some (.sh v))) (z : fr = true → isC v = false) (q : P.rt v) : vRetV fr i env P := by unfold vRetV; rw [h]; exact ⟨z, q⟩
theorem st_retF (h : env[i]? = some (some (.sh v))) (q : P.rt v) : vRetV false i env P := st_retV h (fun z => nomatch z) q
theorem st_retO (h : env[i]? = some (some (.ow v))) (q : P.rt v) : vRetV fr i env P := by unfold vRetV; rw [h]; exact q
end
section
variable {A B : Prop}
theorem st_if {c : Prop} [Decidable c] (a : c → A) (b : ¬c → B) : if c then A else B := by
  by_cases h : c
  · rw [if_pos h]; exact a h
  · rw [if_neg h]; exact b h
theorem st_b {k : Bool} (a : k = true → A) (b : k = false → B) : if k = true then A else B := st_if a fun h => b (by simpa using h)
theorem st_d {p : Prop} [Decidable p] (a : p → A) (b : ¬p → B) : if decide p = true then A else B := st_if (fun h => a (of_decide_eq_true h)) fun h => b fun z => h (decide_eq_true z)
theorem st_n {p : Prop} [Decidable p] (a : ¬p → A) (b : p → B) : if (!decide p) = true then A else B := st_if (fun h => a (of_decide_eq_false (by simpa using h))) fun h => b (by simpa using h)
theorem st_t (a : A) : if true = true then A else B := a
theorem st_f (b : B) : if false = true then A else B := b
theorem st_nt (b : B) : if (!true) = true then A else B := b
theorem st_nf (a : A) : if (!false) = true then A else B := a
end
theorem sz_le {n : Nat} (h : Nat.ble n 16777216 = true) : n ≤ sizeLine := Nat.le_of_ble_eq_true h
theorem ble_lt {n m : Nat} (h : Nat.ble (n + 1) m = true) : n < m := Nat.le_of_ble_eq_true h
/-! what repr takes: n bounds the text, d the depth -/
structure Sh (n d : Nat) (v : Vl) : Prop where
  ex : ∃ p, pd v = some p ∧ fit p = true ∧ wt p ≤ n ∧ p.depth ≤ d ∧ dep v ≤ d
theorem Sh.mono {n d n' d' : Nat} {v : Vl} (h : Sh n d v) (a : n ≤ n') (b : d ≤ d') : Sh n' d' v := by
  obtain ⟨p, e, f, w, x, y⟩ := h.ex
  exact ⟨p, e, f, Nat.le_trans w a, Nat.le_trans x b, Nat.le_trans y b⟩
theorem Sh.repr {n d : Nat} {v : Vl} (h : Sh n d v) (a : n ≤ 16777216) (b : d ≤ 20) : ∃ s, reprV [v] = some (.str s) := by
  obtain ⟨p, e, f, w, x, y⟩ := h.ex
  have o : okRepr p = true := okRepr_of f (Nat.le_trans w a) (by omega)
  refine ⟨p.shown, ?_⟩
  show (pd v).bind _ = _
  rw [e]
  show (if (decide (dep v ≤ LEV) && okRepr p) = true then _ else _) = _
  have l : dep v ≤ LEV := Nat.le_trans y (Nat.le_trans b (by decide))
  rw [o, decide_eq_true l]
  rfl
theorem Sh.non : Sh 4 1 .non := ⟨_, rfl, rfl, Nat.le_refl _, by decide, by decide⟩
theorem Sh.bl (b : Bool) : Sh 5 1 (.bl b) := ⟨_, rfl, rfl, Nat.le_refl _, by simp only [PyData.depth]; omega, Nat.zero_le _⟩
theorem Sh.int {i : Int} (h : i.natAbs < 10000000000) : Sh 12 1 (.int i) := ⟨_, rfl, by simp only [fit]; exact decide_eq_true h, Nat.le_refl _, by simp only [PyData.depth]; omega, Nat.zero_le _⟩
theorem Sh.str {x : Str} {b : Nat} (h : x.length ≤ b) (hc : ∀ c ∈ x.cps.toList, c < 4294967296) : Sh (10 * b + 2) 1 (.str x) :=
  ⟨_, rfl, by simp only [fit, List.all_eq_true, decide_eq_true_eq]; exact hc, by simp only [wt]; omega, by simp only [PyData.depth]; omega, Nat.zero_le _⟩
theorem Sh.all {n d : Nat} : ∀ {xs : List Vl}, (∀ x ∈ xs, Sh n d x) → ∃ ps, pds xs = some ps ∧ fits ps = true ∧ wts ps ≤ (n + 2) * xs.length ∧ PyData.depthAll ps ≤ d ∧ deps xs ≤ d
  | [], _ => ⟨[], rfl, rfl, Nat.zero_le _, by simp [PyData.depthAll], Nat.zero_le _⟩
  | x :: xs, h => by
    obtain ⟨p, e, f, w, a, b⟩ := (h x List.mem_cons_self).ex
    obtain ⟨ps, e', f', w', a', b'⟩ := Sh.all fun y hy => h y (List.mem_cons_of_mem _ hy)
    refine ⟨p :: ps, ?_, ?_, ?_, ?_, ?_⟩
    · show (pd x).bind (fun p => (pds xs).map fun ps => p :: ps) = _
      rw [e, e']; rfl
    · show (fit p && fits ps) = true
      rw [f, f']; rfl
    · show (wt p + 2) + wts ps ≤ _
      rw [List.length_cons, Nat.mul_succ]; omega
    · simp only [PyData.depthAll]; omega
    · show max (dep x) (deps xs) ≤ d
      omega
theorem Sh.tup {n d : Nat} {xs : List Vl} (h : ∀ x ∈ xs, Sh n d x) : Sh ((n + 2) * xs.length + 3) (d + 1) (.tup xs) := by
  obtain ⟨ps, e, f, w, a, b⟩ := Sh.all h
  refine ⟨.tuple ps, ?_, ?_, ?_, ?_, ?_⟩
  · show (pds xs).map _ = _
    rw [e]; rfl
  · simpa only [fit] using f
  · simp only [wt]; omega
  · simp only [PyData.depth]; omega
  · show deps xs ≤ _
    omega
theorem Sh.lst {n d : Nat} {xs : List Vl} (h : ∀ x ∈ xs, Sh n d x) : Sh ((n + 2) * xs.length + 3) (d + 1) (.lst xs) := by
  obtain ⟨ps, e, f, w, a, b⟩ := Sh.all h
  refine ⟨.list ps, ?_, ?_, ?_, ?_, ?_⟩
  · show (pds xs).map _ = _
    rw [e]; rfl
  · simpa only [fit] using f
  · simp only [wt]; omega
  · simp only [PyData.depth]; omega
  · show deps xs + 1 ≤ _
    omega
end DL
namespace DL
open PySem L2
theorem intsV_len (lo : Int) (n : Nat) : (intsV lo n).length = n := by unfold intsV; rw [List.length_map, List.length_range]
theorem rg_ok {j : Int} (h0 : -1000000 ≤ j) (h1 : j ≤ 1000000) : inR j = true := by unfold inR; simp only [Bool.and_eq_true, decide_eq_true_eq]; omega
theorem rg_go {j : Int} {P : Prop} (h0 : -1000000 ≤ j) (h1 : j ≤ 1000000) (p : (intsV 0 j.toNat).length ≤ 1000000 → P) : inR j = true ∧ (intsV 0 j.toNat).length < 2 ^ 24 ∧ P :=
  ⟨rg_ok h0 h1, by rw [intsV_len]; omega, p (by rw [intsV_len]; omega)⟩
theorem st_and {A B : Prop} (a : A) (b : B) : A ∧ B := ⟨a, b⟩
end DL

set_option maxHeartbeats 0
/-! the defs of the law as functions; their derivations (printed by gen2.py from the text) -/
namespace K43
open PySem L2 DL
def top (i : Nat) : Stmt := PySem.Challenge.pw_sparewright_k43_lengths_and_tokens_of_pi.main.body.getD i (.Pass ⟨0, 0, 0, 0⟩)
def clsBody (s : Stmt) : List Stmt := match s with
  | .ClassDef _ _ _ b _ _ _ _ _ _ _ => b
  | _ => []
def y_GapError : List Str := ["TooLong"]
def n_GapError : List Str := []
def y_TooLong : List Str := ["TooLong"]
def n_TooLong : List Str := []
abbrev in_TooLong : Stmt := (clsBody (top 2)).getD 0 (.Pass ⟨0, 0, 0, 0⟩)
theorem xf_TooLong : DX.XForm "TooLong.__init__" (defArgs in_TooLong) (defBody in_TooLong) (defScope in_TooLong) ["length"] := { body := ⟨_, _, _, _, _, _, _, _, [⟨_, _, _, _, _⟩], _, rfl, rfl, fun _ _ _ _ => ⟨rfl, rfl, rfl⟩⟩, self := ⟨_, rfl, rfl⟩, kind := rfl, super := by decide +kernel, cls := by decide +kernel, loc := by decide +kernel, locs := by decide +kernel, nd := by decide, few := by decide, some := by decide, cell := by decide +kernel, co := rfl, ge := rfl, bind := fun _ _ _ _ _ _ _ us hl => match us, hl with | [_], _ => rfl }
abbrev st_listed : Stmt := top 7
abbrev N_listed : List Str := ["numbers", "found", "number"]
abbrev P_listed : List Str := ["numbers"]
theorem sc_listed : FnScope N_listed P_listed (defScope st_listed) := ⟨rfl, rfl, rfl, by decide +kernel, rfl, by decide +kernel, by decide +kernel⟩
def m_listed : SM := sSeq (sSet 1 (mLst (aNil)))
    (sSeq (sFor (iAny (mVar 0)) (.nm 2) (sDrop (mMt .lst dExtend (mVar 1) (aCons (mLst (aCons (mC (.str ",")) (aCons (mVar 2) (aNil)))) (aNil)))))
    (sRet (mSl (mVar 1) (oSome (mC (.int 1))) (oNone))))
def f_listed : FM := runB 3 m_listed
abbrev st_length_in : Stmt := top 9
abbrev N_length_in : List Str := ["parts", "lengths", "part"]
abbrev P_length_in : List Str := ["parts", "lengths"]
theorem sc_length_in : FnScope N_length_in P_length_in (defScope st_length_in) := ⟨rfl, rfl, rfl, by decide +kernel, rfl, by decide +kernel, by decide +kernel⟩
def m_length_in : SM := sRet (mCB bSum (aCons (mLc (iAny (mVar 0)) (.nm 2) (tTrue) (mIf (mTru (mCB bIsi (aCons (mVar 2) (aCons (mC (.raw (.ty "str"))) (aNil))))) (mC (.int 1)) (mBin dIx (mVar 1) (mVar 2))) [2]) (aNil)))
def f_length_in : FM := runB 3 m_length_in
abbrev st__law_hand : Stmt := top 13
abbrev N__law_hand : List Str := ["script", "cell", "cells", "mixed"]
abbrev P__law_hand : List Str := ["script"]
theorem sc__law_hand : FnScope N__law_hand P__law_hand (defScope st__law_hand) := ⟨rfl, rfl, rfl, by decide +kernel, rfl, by decide +kernel, by decide +kernel⟩
def m__law_hand : SM := sSeq (sPar 2 3 (aCons (mCB bList (aCons (mSl (mVar 0) (oNone) (oSome (mC (.int 63)))) (aNil))) (aCons (mC (.int 98543)) (aNil))))
    (sSeq (sFor (iAny (mVar 2)) (.nm 1) (sSet 3 (mBin dMod (mBin dAdd (mBin dAdd (mBin dMul (mVar 3) (mC (.int 40014))) (mBin dMod (mVar 1) (mC (.int 2147483549)))) (mC (.int 47))) (mC (.int 2147483563)))))
    (sRet (mDct ["cells", "mixed", "draws"] (aCons (mRev (mVar 2)) (aCons (mVar 3) (aCons (mC (.int 0)) (aNil)))))))
def f__law_hand : FM := runB 4 m__law_hand
abbrev st__law_draw : Stmt := top 14
abbrev N__law_draw : List Str := ["hand", "many", "core", "cell"]
abbrev P__law_draw : List Str := ["hand", "many"]
theorem sc__law_draw : FnScope N__law_draw P__law_draw (defScope st__law_draw) := ⟨rfl, rfl, rfl, by decide +kernel, rfl, by decide +kernel, by decide +kernel⟩
def m__law_draw : SM := sSeq (sSub (mVar 0) (mC (.str "draws")) (mBin dAdd (mBin dIx (mVar 0) (mC (.str "draws"))) (mC (.int 1))))
    (sSeq (sSet 2 (mBin dAdd (mBin dIx (mVar 0) (mC (.str "mixed"))) (mBin dMul (mC (.int 70067)) (mBin dIx (mVar 0) (mC (.str "draws"))))))
    (sSeq (sIf (mTest (mBin dNe (mBin dIx (mVar 0) (mC (.str "cells"))) (mLst (aNil)))) (sSeq (sSet 3 (mMt .lst dPop (mBin dIx (mVar 0) (mC (.str "cells"))) aNil))
    (sSeq (sIf (mTest (mBin dGe (mVar 3) (mBin dPow (mC (.int 10)) (mC (.int 18))))) (sSeq (sDrop (mMt .lst dAppend (mBin dIx (mVar 0) (mC (.str "cells"))) (aCons (mBin dFdiv (mVar 3) (mVar 1)) (aNil))))
    (sRet (mBin dMod (mVar 3) (mVar 1)))) (sNext))
    (sSet 2 (mBin dAdd (mVar 2) (mVar 3))))) (sNext))
    (sSeq (sSet 2 (mBin dMod (mBin dMul (mBin dMod (mVar 2) (mC (.int 2147483549))) (mC (.int 40692))) (mC (.int 2147483399))))
    (sSeq (sSet 2 (mBin dMod (mBin dAdd (mBin dAdd (mBin dMul (mVar 2) (mVar 2)) (mBin dMul (mC (.int 60091)) (mBin dIx (mVar 0) (mC (.str "draws"))))) (mC (.int 5))) (mC (.int 2147483563))))
    (sRet (mBin dMod (mBin dFdiv (mBin dMod (mBin dMul (mVar 2) (mC (.int 39373))) (mC (.int 2147483549))) (mC (.int 32))) (mVar 1)))))))
def f__law_draw : FM := runB 4 m__law_draw
abbrev st__law_between : Stmt := top 17
abbrev N__law_between : List Str := ["lists", "found", "at", "one"]
abbrev P__law_between : List Str := ["lists"]
theorem sc__law_between : FnScope N__law_between P__law_between (defScope st__law_between) := ⟨rfl, rfl, rfl, by decide +kernel, rfl, by decide +kernel, by decide +kernel⟩
def m__law_between : SM := sSeq (sSet 1 (mLst (aNil)))
    (sSeq (sFor (iEn (aCons (mVar 0) (aNil))) (.tp [.nm 2, .nm 3]) (sSet 1 (mBin dAdd (mBin dAdd (mVar 1) (mBin dMul (mLst (aCons (mC (.str ",")) (aNil))) (mCB bInt (aCons (mBin dGt (mVar 2) (mC (.int 0))) (aNil))))) (mVar 3))))
    (sRet (mVar 1)))
def f__law_between : FM := runB 4 m__law_between
abbrev st__law_size : Stmt := top 19
abbrev N__law_size : List Str := ["step", "sizes", "lots", "k"]
abbrev P__law_size : List Str := ["step", "sizes"]
theorem sc__law_size : FnScope N__law_size P__law_size (defScope st__law_size) := ⟨rfl, rfl, rfl, by decide +kernel, rfl, by decide +kernel, by decide +kernel⟩
def m__law_size : SM := sSeq (sIf (mTest (mBin dEq (mBin dIx (mVar 0) (mC (.int 0))) (mC (.str "token")))) (sRet (mC (.int 1))) (sNext))
    (sSeq (sSet 2 (mLc (iAny (mBin dIx (mVar 0) (mC (.int 2)))) (.nm 3) (tTrue) (mBin dIx (mVar 1) (mVar 3)) [3]))
    (sSeq (sIf (mTest (mBin dEq (mBin dIx (mVar 0) (mC (.int 0))) (mC (.str "operator")))) (sRet (mBin dAdd (mCB bSum (aCons (mVar 2) (aNil))) (mC (.int 3)))) (sNext))
    (sRet (mBin dAdd (mCB bSum (aCons (mVar 2) (aNil))) (mIf (mTest (mBin dEq (mBin dIx (mVar 0) (mC (.int 0))) (mC (.str "call")))) (mBin dAdd (mC (.int 2)) (mCB bMax (aCons (mC (.int 1)) (aCons (mCB bLen (aCons (mVar 2) (aNil))) (aNil))))) (mBin dAdd (mC (.int 3)) (mCB bMax (aCons (mC (.int 1)) (aCons (mBin dSub (mCB bLen (aCons (mVar 2) (aNil))) (mC (.int 1))) (aNil))))))))))
def f__law_size : FM := runB 4 m__law_size
abbrev st_parts_of : Stmt := top 8
abbrev N_parts_of : List Str := ["step", "word", "name", "numbers"]
abbrev P_parts_of : List Str := ["step"]
theorem sc_parts_of : FnScope N_parts_of P_parts_of (defScope st_parts_of) := ⟨rfl, rfl, rfl, by decide +kernel, rfl, by decide +kernel, by decide +kernel⟩
def m_parts_of : SM := sSeq (sIf (mTest (mBin dEq (mBin dIx (mVar 0) (mC (.int 0))) (mC (.str "token")))) (sRet (mLst (aCons (mBin dIx (mVar 0) (mC (.int 1))) (aNil)))) (sNext))
    (sSeq (sAsg (.tp [.nm 1, .nm 2, .nm 3]) (mVar 0))
    (sSeq (sIf (mTest (mBin dEq (mVar 1) (mC (.str "call")))) (sRet (mLst (aCons (mVar 2) (aCons (mC (.str "(")) (aStar (mCall 1 f_listed (aCons (mVar 3) (aNil))) (aCons (mC (.str ")")) (aNil))))))) (sNext))
    (sSeq (sIf (mTest (mBin dEq (mVar 1) (mC (.str "method")))) (sRet (mLst (aCons (mBin dIx (mVar 3) (mC (.int 0))) (aCons (mC (.str ".")) (aCons (mVar 2) (aCons (mC (.str "(")) (aStar (mCall 1 f_listed (aCons (mSl (mVar 3) (oSome (mC (.int 1))) (oNone)) (aNil))) (aCons (mC (.str ")")) (aNil))))))))) (sNext))
    (sRet (mLst (aCons (mC (.str "(")) (aCons (mBin dIx (mVar 3) (mC (.int 0))) (aCons (mVar 2) (aCons (mBin dIx (mVar 3) (mC (.int 1))) (aCons (mC (.str ")")) (aNil)))))))))))
def f_parts_of : FM := runB 4 m_parts_of
abbrev st__law_pick : Stmt := top 15
abbrev N__law_pick : List Str := ["hand", "some"]
abbrev P__law_pick : List Str := ["hand", "some"]
theorem sc__law_pick : FnScope N__law_pick P__law_pick (defScope st__law_pick) := ⟨rfl, rfl, rfl, by decide +kernel, rfl, by decide +kernel, by decide +kernel⟩
def m__law_pick : SM := sRet (mBin dIx (mVar 1) (mCall 2 f__law_draw (aCons (mVar 0) (aCons (mCB bLen (aCons (mVar 1) (aNil))) (aNil)))))
def f__law_pick : FM := runB 2 m__law_pick
abbrev st__law_written : Stmt := top 18
abbrev N__law_written : List Str := ["it", "found", "step", "lists", "k"]
abbrev P__law_written : List Str := ["it"]
theorem sc__law_written : FnScope N__law_written P__law_written (defScope st__law_written) := ⟨rfl, rfl, rfl, by decide +kernel, rfl, by decide +kernel, by decide +kernel⟩
def m__law_written : SM := sSeq (sSet 1 (mLst (aNil)))
    (sSeq (sFor (iAny (mVar 0)) (.nm 2) (sSeq (sIf (mTest (mBin dEq (mBin dIx (mVar 2) (mC (.int 0))) (mC (.str "token")))) (sSeq (sDrop (mMt .lst dAppend (mVar 1) (aCons (mLst (aCons (mBin dIx (mVar 2) (mC (.int 1))) (aNil))) (aNil))))
    (sCont)) (sNext))
    (sSeq (sSet 3 (mLc (iAny (mBin dIx (mVar 2) (mC (.int 2)))) (.nm 4) (tTrue) (mBin dIx (mVar 1) (mVar 4)) [4]))
    (sIf (mTest (mBin dEq (mBin dIx (mVar 2) (mC (.int 0))) (mC (.str "operator")))) (sDrop (mMt .lst dAppend (mVar 1) (aCons (mBin dAdd (mBin dAdd (mBin dAdd (mBin dAdd (mLst (aCons (mC (.str "(")) (aNil))) (mBin dIx (mVar 3) (mC (.int 0)))) (mLst (aCons (mBin dIx (mVar 2) (mC (.int 1))) (aNil)))) (mBin dIx (mVar 3) (mC (.int 1)))) (mLst (aCons (mC (.str ")")) (aNil)))) (aNil)))) (sIf (mTest (mBin dEq (mBin dIx (mVar 2) (mC (.int 0))) (mC (.str "call")))) (sDrop (mMt .lst dAppend (mVar 1) (aCons (mBin dAdd (mBin dAdd (mLst (aCons (mBin dIx (mVar 2) (mC (.int 1))) (aCons (mC (.str "(")) (aNil)))) (mCall 1 f__law_between (aCons (mVar 3) (aNil)))) (mLst (aCons (mC (.str ")")) (aNil)))) (aNil)))) (sDrop (mMt .lst dAppend (mVar 1) (aCons (mBin dAdd (mBin dAdd (mBin dAdd (mBin dIx (mVar 3) (mC (.int 0))) (mLst (aCons (mC (.str ".")) (aCons (mBin dIx (mVar 2) (mC (.int 1))) (aCons (mC (.str "(")) (aNil)))))) (mCall 1 f__law_between (aCons (mSl (mVar 3) (oSome (mC (.int 1))) (oNone)) (aNil)))) (mLst (aCons (mC (.str ")")) (aNil)))) (aNil)))))))))
    (sRet (mVar 1)))
def f__law_written : FM := runB 5 m__law_written
abbrev st_length_of : Stmt := top 10
abbrev N_length_of : List Str := ["rows", "pieces", "lengths", "step"]
abbrev P_length_of : List Str := ["rows", "pieces"]
theorem sc_length_of : FnScope N_length_of P_length_of (defScope st_length_of) := ⟨rfl, rfl, rfl, by decide +kernel, rfl, by decide +kernel, by decide +kernel⟩
def m_length_of : SM := sSeq (sSet 2 (mLst (aNil)))
    (sSeq (sFor (iAny (mVar 0)) (.nm 3) (sDrop (mMt .lst dAppend (mVar 2) (aCons (mCall 2 f_length_in (aCons (mCall 1 f_parts_of (aCons (mVar 3) (aNil))) (aCons (mVar 2) (aNil)))) (aNil)))))
    (sRet (mCall 2 f_length_in (aCons (mVar 1) (aCons (mVar 2) (aNil))))))
def f_length_of : FM := runB 4 m_length_of
abbrev st__law_step : Stmt := top 16
abbrev N__law_step : List Str := ["hand", "many", "sort", "size", "numbers", "sign", "k"]
abbrev P__law_step : List Str := ["hand", "many"]
theorem sc__law_step : FnScope N__law_step P__law_step (defScope st__law_step) := ⟨rfl, rfl, rfl, by decide +kernel, rfl, by decide +kernel, by decide +kernel⟩
def m__law_step : SM := sSeq (sSet 2 (mCall 2 f__law_pick (aCons (mVar 0) (aCons (mLst (aCons (mC (.str "token")) (aCons (mC (.str "call")) (aCons (mC (.str "method")) (aCons (mC (.str "operator")) (aNil)))))) (aNil)))))
    (sSeq (sIf (tOr' (mTest (mBin dEq (mVar 2) (mC (.str "token")))) (mTest (mBin dEq (mVar 1) (mC (.int 0))))) (sRet (mTup (aCons (mC (.str "token")) (aCons (mCall 2 f__law_pick (aCons (mVar 0) (aCons (mLst (aCons (mC (.str "x")) (aCons (mC (.str "0")) (aCons (mC (.str "123456789")) (aCons (mC (.str "\"\"")) (aCons (mC (.str "\"a  z\"")) (aCons (mC (.str "zzzzzzzz")) (aCons (mC (.str "letx")) (aNil))))))))) (aNil)))) (aNil))))) (sNext))
    (sSeq (sIf (mTest (mBin dEq (mVar 2) (mC (.str "operator")))) (sSeq (sSet 5 (mCall 2 f__law_pick (aCons (mVar 0) (aCons (mLst (aCons (mC (.str "+")) (aCons (mC (.str "-")) (aCons (mC (.str "*")) (aCons (mC (.str "/")) (aCons (mC (.str "&")) (aCons (mC (.str "|")) (aCons (mC (.str "^")) (aNil))))))))) (aNil)))))
    (sRet (mTup (aCons (mVar 2) (aCons (mVar 5) (aCons (mTup (aCons (mCall 2 f__law_draw (aCons (mVar 0) (aCons (mVar 1) (aNil)))) (aCons (mCall 2 f__law_draw (aCons (mVar 0) (aCons (mVar 1) (aNil)))) (aNil)))) (aNil))))))) (sNext))
    (sSeq (sSet 3 (mIf (mTest (mBin dEq (mVar 2) (mC (.str "call")))) (mCall 2 f__law_pick (aCons (mVar 0) (aCons (mLst (aCons (mC (.int 0)) (aCons (mC (.int 1)) (aCons (mC (.int 2)) (aCons (mC (.int 3)) (aCons (mC (.int 4)) (aNil))))))) (aNil)))) (mCall 2 f__law_pick (aCons (mVar 0) (aCons (mLst (aCons (mC (.int 1)) (aCons (mC (.int 1)) (aCons (mC (.int 2)) (aCons (mC (.int 3)) (aCons (mC (.int 4)) (aNil))))))) (aNil))))))
    (sSeq (sSet 4 (mCB bTuple (aCons (mLc (iRg1 (aCons (mVar 3) (aNil))) (.nm 6) (tTrue) (mCall 2 f__law_pick (aCons (mVar 0) (aCons (mLst (aCons (mBin dSub (mVar 1) (mC (.int 1))) (aCons (mCall 2 f__law_draw (aCons (mVar 0) (aCons (mVar 1) (aNil)))) (aNil)))) (aNil)))) [6]) (aNil))))
    (sRet (mTup (aCons (mVar 2) (aCons (mCall 2 f__law_pick (aCons (mVar 0) (aCons (mLst (aCons (mC (.str "f")) (aCons (mC (.str "call")) (aCons (mC (.str "token")) (aCons (mC (.str "g")) (aCons (mC (.str "method")) (aNil))))))) (aNil)))) (aCons (mVar 4) (aNil))))))))))
def f__law_step : FM := runB 7 m__law_step
abbrev st_tokens_of : Stmt := top 11
abbrev N_tokens_of : List Str := ["rows", "pieces", "most", "length", "found", "waiting", "part"]
abbrev P_tokens_of : List Str := ["rows", "pieces", "most"]
theorem sc_tokens_of : FnScope N_tokens_of P_tokens_of (defScope st_tokens_of) := ⟨rfl, rfl, rfl, by decide +kernel, rfl, by decide +kernel, by decide +kernel⟩
def m_tokens_of : SM := sSeq (sSet 3 (mCall 2 f_length_of (aCons (mVar 0) (aCons (mVar 1) (aNil)))))
    (sSeq (sIf (mTest (mBin dGt (mVar 3) (mVar 2))) (sRaise "TooLong" ["length"] (aCons (mVar 3) (aNil))) (sNext))
    (sSeq (sPar 4 5 (aCons (mLst (aNil)) (aCons (mCB bList (aCons (mRev (mVar 1)) (aNil))) (aNil))))
    (sSeq (sWhile (mTest (mBin dNe (mVar 5) (mLst (aNil)))) (sSeq (sSet 6 (mMt .lst dPop (mVar 5) aNil))
    (sIf (mTru (mCB bIsi (aCons (mVar 6) (aCons (mC (.raw (.ty "str"))) (aNil))))) (sDrop (mMt .lst dAppend (mVar 4) (aCons (mVar 6) (aNil)))) (sDrop (mMt .lst dExtend (mVar 5) (aCons (mRev (mCall 1 f_parts_of (aCons (mBin dIx (mVar 0) (mVar 6)) (aNil)))) (aNil)))))))
    (sRet (mCB bTuple (aCons (mVar 4) (aNil)))))))
def f_tokens_of : FM := runB 7 m_tokens_of
abbrev st__law_rows : Stmt := top 20
abbrev N__law_rows : List Str := ["hand", "k", "found", "sizes", "step"]
abbrev P__law_rows : List Str := ["hand"]
theorem sc__law_rows : FnScope N__law_rows P__law_rows (defScope st__law_rows) := ⟨rfl, rfl, rfl, by decide +kernel, rfl, by decide +kernel, by decide +kernel⟩
def m__law_rows : SM := sSeq (sPar 2 3 (aCons (mLst (aNil)) (aCons (mLst (aNil)) (aNil))))
    (sSeq (sFor (iRg1 (aCons (mBin dAdd (mC (.int 1)) (mCall 2 f__law_draw (aCons (mVar 0) (aCons (mC (.int 12)) (aNil))))) (aNil))) (.nm 1) (sSeq (sSet 4 (mCall 2 f__law_step (aCons (mVar 0) (aCons (mCB bLen (aCons (mVar 2) (aNil))) (aNil)))))
    (sIf (mTest (mBin dLe (mCall 2 f__law_size (aCons (mVar 4) (aCons (mVar 3) (aNil)))) (mC (.int 600)))) (sSeq (sDrop (mMt .lst dAppend (mVar 2) (aCons (mVar 4) (aNil))))
    (sDrop (mMt .lst dAppend (mVar 3) (aCons (mCall 2 f__law_size (aCons (mVar 4) (aCons (mVar 3) (aNil)))) (aNil))))) (sNext))))
    (sRet (mCB bTuple (aCons (mVar 2) (aNil)))))
def f__law_rows : FM := runB 5 m__law_rows
abbrev st__law_heard : Stmt := top 21
abbrev N__law_heard : List Str := ["it", "lot", "top", "found", "e"]
abbrev P__law_heard : List Str := ["it", "lot", "top"]
theorem sc__law_heard : FnScope N__law_heard P__law_heard (defScope st__law_heard) := ⟨rfl, rfl, rfl, by decide +kernel, rfl, by decide +kernel, by decide +kernel⟩
def m__law_heard : SM := sSeq (sSet 3 (mC .non))
    (sSeq (sTry 4 (sSet 3 (mIf (mTest (mBin dIsNot (mVar 2) (mC .non))) (mCallK 3 f_tokens_of [(false, 0), (false, 1), (true, 0)] (aCons (mVar 0) (aCons (mVar 1) (aNil))) (aCons (mVar 2) (aNil))) (mCallD 3 f_tokens_of [.int 2000] (aCons (mVar 0) (aCons (mVar 1) (aNil)))))) y_TooLong n_TooLong (fun z => sSet 3 ((fun z => mIf (mTru ((mXi y_GapError n_GapError) z)) ((fun z => mLst ((fun z => aCons ((mXf y_TooLong "length") z) ((fun _ => aNil) z)) z)) z) ((fun _ => mLst (aCons (mC (.str "another error")) (aNil))) z)) z)))
    (sRet (mVar 3)))
def f__law_heard : FM := runB 5 m__law_heard
abbrev st__law_right : Stmt := top 22
abbrev N__law_right : List Str := ["hand", "it", "lot", "one", "size", "top", "lists", "due", "before", "wished"]
abbrev P__law_right : List Str := ["hand", "it", "lot"]
theorem sc__law_right : FnScope N__law_right P__law_right (defScope st__law_right) := ⟨rfl, rfl, rfl, by decide +kernel, rfl, by decide +kernel, by decide +kernel⟩
def m__law_right : SM := sSeq (sPar3 6 7 8 (aCons (mCall 1 f__law_written (aCons (mVar 1) (aNil))) (aCons (mLst (aNil)) (aCons (mCB bRepr (aCons (mLst (aCons (mVar 1) (aCons (mVar 2) (aNil)))) (aNil))) (aNil)))))
    (sSeq (sFor (iAny (mVar 2)) (.nm 3) (sSet 7 (mBin dAdd (mVar 7) (mIf (mTru (mCB bIsi (aCons (mVar 3) (aCons (mC (.raw (.ty "str"))) (aNil))))) (mLst (aCons (mVar 3) (aNil))) (mBin dIx (mVar 6) (mVar 3))))))
    (sSeq (sSet 4 (mCB bLen (aCons (mVar 7) (aNil))))
    (sSeq (sIf (mTest (mBin dNe (mCB bRepr (aCons (mLst (aCons (mCall 2 f_length_of (aCons (mVar 1) (aCons (mVar 2) (aNil)))) (aCons (mCallK 2 f_length_of [(true, 1), (true, 0)] aNil (aCons (mVar 2) (aCons (mVar 1) (aNil)))) (aNil)))) (aNil))) (mCB bRepr (aCons (mLst (aCons (mVar 4) (aCons (mVar 4) (aNil)))) (aNil))))) (sRet (mC (.bl false))) (sNext))
    (sSeq (sFor (iAny (mLst (aCons (mVar 4) (aCons (mBin dAdd (mVar 4) (mCall 2 f__law_draw (aCons (mVar 0) (aCons (mC (.int 9)) (aNil))))) (aCons (mCB bMax (aCons (mC (.int 0)) (aCons (mBin dSub (mVar 4) (mC (.int 1))) (aNil)))) (aCons (mC (.int 0)) (aCons (mCall 2 f__law_draw (aCons (mVar 0) (aCons (mC (.int 20)) (aNil)))) (aCons (mC .non) (aNil))))))))) (.nm 5) (sSeq (sSet 9 (mIf (mTest (mBin dLe (mVar 4) (mIf (mTest (mBin dIs (mVar 5) (mC .non))) (mC (.int 2000)) (mVar 5)))) (mCB bRepr (aCons (mCB bTuple (aCons (mVar 7) (aNil))) (aNil))) (mCB bRepr (aCons (mLst (aCons (mVar 4) (aNil))) (aNil)))))
    (sIf (mTest (mBin dNe (mCB bRepr (aCons (mCall 3 f__law_heard (aCons (mVar 1) (aCons (mVar 2) (aCons (mVar 5) (aNil))))) (aNil))) (mVar 9))) (sRet (mC (.bl false))) (sNext))))
    (sSeq (sIf (mTest (mBin dNe (mCB bRepr (aCons (mCallK 3 f_tokens_of [(true, 2), (true, 1), (true, 0)] aNil (aCons (mVar 4) (aCons (mVar 2) (aCons (mVar 1) (aNil))))) (aNil))) (mCB bRepr (aCons (mCB bTuple (aCons (mVar 7) (aNil))) (aNil))))) (sRet (mC (.bl false))) (sNext))
    (sRet (mBin dEq (mCB bRepr (aCons (mLst (aCons (mVar 1) (aCons (mVar 2) (aNil)))) (aNil))) (mVar 8))))))))
def f__law_right : FM := runB 10 m__law_right
abbrev st_law : Stmt := top 23
abbrev N_law : List Str := ["script", "hand", "turn", "it", "k", "lot", "some"]
abbrev P_law : List Str := ["script"]
theorem sc_law : FnScope N_law P_law (defScope st_law) := ⟨rfl, rfl, rfl, by decide +kernel, rfl, by decide +kernel, by decide +kernel⟩
def m_rest : SM := sSeq (sFor (iRg1 (aCons (mC (.int 8)) (aNil))) (.nm 2) (sSeq (sSet 3 (mCall 1 f__law_rows (aCons (mVar 1) (aNil))))
    (sSeq (sPar 5 6 (aCons (mLst (aNil)) (aCons (mLst (aCons (mC (.str "give")) (aCons (mC (.str ";")) (aCons (mC (.str "=")) (aCons (mC (.str "if")) (aCons (mC (.str "0")) (aCons (mC (.str ")")) (aNil)))))))) (aNil))))
    (sSeq (sFor (iRg1 (aCons (mCall 2 f__law_pick (aCons (mVar 1) (aCons (mLst (aCons (mC (.int 0)) (aCons (mC (.int 1)) (aCons (mC (.int 1)) (aCons (mC (.int 3)) (aCons (mC (.int 8)) (aNil))))))) (aNil)))) (aNil))) (.nm 4) (sDrop (mMt .lst dAppend (mVar 5) (aCons (mCall 2 f__law_pick (aCons (mVar 1) (aCons (mLst (aCons (mCall 2 f__law_draw (aCons (mVar 1) (aCons (mCB bLen (aCons (mVar 3) (aNil))) (aNil)))) (aCons (mCall 2 f__law_pick (aCons (mVar 1) (aCons (mVar 6) (aNil)))) (aNil)))) (aNil)))) (aNil)))))
    (sIf (tOr' (tNot' (mTru (mCall 3 f__law_right (aCons (mVar 1) (aCons (mVar 3) (aCons (mCB bTuple (aCons (mVar 5) (aNil))) (aNil))))))) (tNot' (mTru (mCall 3 f__law_right (aCons (mVar 1) (aCons (mVar 3) (aCons (mTup (aCons (mBin dSub (mCB bLen (aCons (mVar 3) (aNil))) (mC (.int 1))) (aNil))) (aNil)))))))) (sRet (mC (.bl false))) (sNext))))))
    (sRet (mC (.bl true)))
def m_law : SM := sSeq (sSet 1 (mCall 1 f__law_hand (aCons (mVar 0) (aNil)))) m_rest
def f_law : FM := runB 7 m_law
theorem b_listed (kV doc pm : Value) (an : Option Addr) (cdv ct : Value) (us : List Value) (hl : us.length = P_listed.length) : bindArgs (PySem.W.fnOf "listed" "listed" (defArgs st_listed) (defBody st_listed) (defScope st_listed) .none kV doc pm an cdv ct) ⟨us, []⟩ = pure (P_listed.zip us) := match us, hl with | [_], _ => rfl
theorem b_length_in (kV doc pm : Value) (an : Option Addr) (cdv ct : Value) (us : List Value) (hl : us.length = P_length_in.length) : bindArgs (PySem.W.fnOf "length_in" "length_in" (defArgs st_length_in) (defBody st_length_in) (defScope st_length_in) .none kV doc pm an cdv ct) ⟨us, []⟩ = pure (P_length_in.zip us) := match us, hl with | [_, _], _ => rfl
theorem b__law_hand (kV doc pm : Value) (an : Option Addr) (cdv ct : Value) (us : List Value) (hl : us.length = P__law_hand.length) : bindArgs (PySem.W.fnOf "_law_hand" "_law_hand" (defArgs st__law_hand) (defBody st__law_hand) (defScope st__law_hand) .none kV doc pm an cdv ct) ⟨us, []⟩ = pure (P__law_hand.zip us) := match us, hl with | [_], _ => rfl
theorem b__law_draw (kV doc pm : Value) (an : Option Addr) (cdv ct : Value) (us : List Value) (hl : us.length = P__law_draw.length) : bindArgs (PySem.W.fnOf "_law_draw" "_law_draw" (defArgs st__law_draw) (defBody st__law_draw) (defScope st__law_draw) .none kV doc pm an cdv ct) ⟨us, []⟩ = pure (P__law_draw.zip us) := match us, hl with | [_, _], _ => rfl
theorem b__law_between (kV doc pm : Value) (an : Option Addr) (cdv ct : Value) (us : List Value) (hl : us.length = P__law_between.length) : bindArgs (PySem.W.fnOf "_law_between" "_law_between" (defArgs st__law_between) (defBody st__law_between) (defScope st__law_between) .none kV doc pm an cdv ct) ⟨us, []⟩ = pure (P__law_between.zip us) := match us, hl with | [_], _ => rfl
theorem b__law_size (kV doc pm : Value) (an : Option Addr) (cdv ct : Value) (us : List Value) (hl : us.length = P__law_size.length) : bindArgs (PySem.W.fnOf "_law_size" "_law_size" (defArgs st__law_size) (defBody st__law_size) (defScope st__law_size) .none kV doc pm an cdv ct) ⟨us, []⟩ = pure (P__law_size.zip us) := match us, hl with | [_, _], _ => rfl
theorem b_parts_of (kV doc pm : Value) (an : Option Addr) (cdv ct : Value) (us : List Value) (hl : us.length = P_parts_of.length) : bindArgs (PySem.W.fnOf "parts_of" "parts_of" (defArgs st_parts_of) (defBody st_parts_of) (defScope st_parts_of) .none kV doc pm an cdv ct) ⟨us, []⟩ = pure (P_parts_of.zip us) := match us, hl with | [_], _ => rfl
theorem b__law_pick (kV doc pm : Value) (an : Option Addr) (cdv ct : Value) (us : List Value) (hl : us.length = P__law_pick.length) : bindArgs (PySem.W.fnOf "_law_pick" "_law_pick" (defArgs st__law_pick) (defBody st__law_pick) (defScope st__law_pick) .none kV doc pm an cdv ct) ⟨us, []⟩ = pure (P__law_pick.zip us) := match us, hl with | [_, _], _ => rfl
theorem b__law_written (kV doc pm : Value) (an : Option Addr) (cdv ct : Value) (us : List Value) (hl : us.length = P__law_written.length) : bindArgs (PySem.W.fnOf "_law_written" "_law_written" (defArgs st__law_written) (defBody st__law_written) (defScope st__law_written) .none kV doc pm an cdv ct) ⟨us, []⟩ = pure (P__law_written.zip us) := match us, hl with | [_], _ => rfl
theorem b_length_of (kV doc pm : Value) (an : Option Addr) (cdv ct : Value) (us : List Value) (hl : us.length = P_length_of.length) : bindArgs (PySem.W.fnOf "length_of" "length_of" (defArgs st_length_of) (defBody st_length_of) (defScope st_length_of) .none kV doc pm an cdv ct) ⟨us, []⟩ = pure (P_length_of.zip us) := match us, hl with | [_, _], _ => rfl
theorem b__law_step (kV doc pm : Value) (an : Option Addr) (cdv ct : Value) (us : List Value) (hl : us.length = P__law_step.length) : bindArgs (PySem.W.fnOf "_law_step" "_law_step" (defArgs st__law_step) (defBody st__law_step) (defScope st__law_step) .none kV doc pm an cdv ct) ⟨us, []⟩ = pure (P__law_step.zip us) := match us, hl with | [_, _], _ => rfl
theorem b__law_rows (kV doc pm : Value) (an : Option Addr) (cdv ct : Value) (us : List Value) (hl : us.length = P__law_rows.length) : bindArgs (PySem.W.fnOf "_law_rows" "_law_rows" (defArgs st__law_rows) (defBody st__law_rows) (defScope st__law_rows) .none kV doc pm an cdv ct) ⟨us, []⟩ = pure (P__law_rows.zip us) := match us, hl with | [_], _ => rfl
theorem b__law_heard (kV doc pm : Value) (an : Option Addr) (cdv ct : Value) (us : List Value) (hl : us.length = P__law_heard.length) : bindArgs (PySem.W.fnOf "_law_heard" "_law_heard" (defArgs st__law_heard) (defBody st__law_heard) (defScope st__law_heard) .none kV doc pm an cdv ct) ⟨us, []⟩ = pure (P__law_heard.zip us) := match us, hl with | [_, _, _], _ => rfl
theorem b__law_right (kV doc pm : Value) (an : Option Addr) (cdv ct : Value) (us : List Value) (hl : us.length = P__law_right.length) : bindArgs (PySem.W.fnOf "_law_right" "_law_right" (defArgs st__law_right) (defBody st__law_right) (defScope st__law_right) .none kV doc pm an cdv ct) ⟨us, []⟩ = pure (P__law_right.zip us) := match us, hl with | [_, _, _], _ => rfl
theorem b_law (kV doc pm : Value) (an : Option Addr) (cdv ct : Value) (us : List Value) (hl : us.length = P_law.length) : bindArgs (PySem.W.fnOf "law" "law" (defArgs st_law) (defBody st_law) (defScope st_law) .none kV doc pm an cdv ct) ⟨us, []⟩ = pure (P_law.zip us) := match us, hl with | [_], _ => rfl
theorem bk0_tokens_of (kV doc pm : Value) (an : Option Addr) (cdv ct : Value) (us ws : List Value) (_ : (pick [(false, 0), (false, 1), (true, 0)] us ws).length = P_tokens_of.length) (h1 : us.length = 2) (hl : ws.length = (["most"] : List Str).length) : bindArgs (PySem.W.fnOf "tokens_of" "tokens_of" (defArgs st_tokens_of) (defBody st_tokens_of) (defScope st_tokens_of) .none kV doc pm an cdv ct) ⟨us, (["most"] : List Str).zip ws⟩ = pure (P_tokens_of.zip (pick [(false, 0), (false, 1), (true, 0)] us ws)) := match us, h1, ws, hl with | [_, _], _, [_], _ => rfl
theorem bk1_tokens_of (kV doc pm : Value) (an : Option Addr) (cdv ct : Value) (ws : List Value) (_ : (pick [(true, 2), (true, 1), (true, 0)] [] ws).length = P_tokens_of.length) (hl : ws.length = (["most", "pieces", "rows"] : List Str).length) : bindArgs (PySem.W.fnOf "tokens_of" "tokens_of" (defArgs st_tokens_of) (defBody st_tokens_of) (defScope st_tokens_of) .none kV doc pm an cdv ct) ⟨[], (["most", "pieces", "rows"] : List Str).zip ws⟩ = pure (P_tokens_of.zip (pick [(true, 2), (true, 1), (true, 0)] [] ws)) := match ws, hl with | [_, _, _], _ => rfl
theorem bk2_length_of (kV doc pm : Value) (an : Option Addr) (cdv ct : Value) (ws : List Value) (_ : (pick [(true, 1), (true, 0)] [] ws).length = P_length_of.length) (hl : ws.length = (["pieces", "rows"] : List Str).length) : bindArgs (PySem.W.fnOf "length_of" "length_of" (defArgs st_length_of) (defBody st_length_of) (defScope st_length_of) .none kV doc pm an cdv ct) ⟨[], (["pieces", "rows"] : List Str).zip ws⟩ = pure (P_length_of.zip (pick [(true, 1), (true, 0)] [] ws)) := match ws, hl with | [_, _], _ => rfl
/-- what the top has written -/
structure Tops (P : Program) (K : PySem.W.Frag) (mg : Str → Option Value) : Prop where
  sk : SysK K
  b_enumerate : mg "enumerate" = none
  b_int : mg "int" = none
  b_isinstance : mg "isinstance" = none
  b_len : mg "len" = none
  b_list : mg "list" = none
  b_max : mg "max" = none
  b_range : mg "range" = none
  b_repr : mg "repr" = none
  b_str : mg "str" = none
  b_sum : mg "sum" = none
  b_tuple : mg "tuple" = none
  g_CALL : ∃ t, mg "CALL" = some (.str "call" t)
  g_METHOD : ∃ t, mg "METHOD" = some (.str "method" t)
  g_TOKEN : ∃ t, mg "TOKEN" = some (.str "token" t)
  x_TooLong : XOk P K mg "TooLong" ["length"]
  h_TooLong : ∃ c, mg "TooLong" = some c ∧ (∀ z ∈ y_TooLong, Mtc K z c true) ∧ ∀ z ∈ n_TooLong, Mtc K z c false
  i_GapError : ∃ G, mg "GapError" = some (.ref G) ∧ (∀ z ∈ y_GapError, XiN K z (.ref G) true) ∧ ∀ z ∈ n_GapError, XiN K z (.ref G) false
  f_TooLong_length : ∀ z ∈ y_TooLong, XfN K z "length"
  d_listed : ∃ f fd, mg "listed" = some (.ref f) ∧ Fun K "listed" "listed" st_listed f fd
  d_length_in : ∃ f fd, mg "length_in" = some (.ref f) ∧ Fun K "length_in" "length_in" st_length_in f fd
  d__law_hand : ∃ f fd, mg "_law_hand" = some (.ref f) ∧ Fun K "_law_hand" "_law_hand" st__law_hand f fd
  d__law_draw : ∃ f fd, mg "_law_draw" = some (.ref f) ∧ Fun K "_law_draw" "_law_draw" st__law_draw f fd
  d__law_between : ∃ f fd, mg "_law_between" = some (.ref f) ∧ Fun K "_law_between" "_law_between" st__law_between f fd
  d__law_size : ∃ f fd, mg "_law_size" = some (.ref f) ∧ Fun K "_law_size" "_law_size" st__law_size f fd
  d_parts_of : ∃ f fd, mg "parts_of" = some (.ref f) ∧ Fun K "parts_of" "parts_of" st_parts_of f fd
  d__law_pick : ∃ f fd, mg "_law_pick" = some (.ref f) ∧ Fun K "_law_pick" "_law_pick" st__law_pick f fd
  d__law_written : ∃ f fd, mg "_law_written" = some (.ref f) ∧ Fun K "_law_written" "_law_written" st__law_written f fd
  d_length_of : ∃ f fd, mg "length_of" = some (.ref f) ∧ Fun K "length_of" "length_of" st_length_of f fd
  d__law_step : ∃ f fd, mg "_law_step" = some (.ref f) ∧ Fun K "_law_step" "_law_step" st__law_step f fd
  d_tokens_of : ∃ f fd, mg "tokens_of" = some (.ref f) ∧ Fun K "tokens_of" "tokens_of" st_tokens_of f fd
  d__law_rows : ∃ f fd, mg "_law_rows" = some (.ref f) ∧ Fun K "_law_rows" "_law_rows" st__law_rows f fd
  d__law_heard : ∃ f fd, mg "_law_heard" = some (.ref f) ∧ Fun K "_law_heard" "_law_heard" st__law_heard f fd
  d__law_right : ∃ f fd, mg "_law_right" = some (.ref f) ∧ Fun K "_law_right" "_law_right" st__law_right f fd
  d_law : ∃ f fd, mg "law" = some (.ref f) ∧ Fun K "law" "law" st_law f fd
  k_tokens_of : ∀ f fd, mg "tokens_of" = some (.ref f) → Fun K "tokens_of" "tokens_of" st_tokens_of f fd → Dfl K fd P_tokens_of [.int 2000]
section
variable {P : Program} {w : World} {K : PySem.W.Frag} {mg : Str → Option Value} {base : Heap} {k : Nat}
theorem c_listed (T : Tops P K mg) : Cal P w K mg base (k + 1) "listed" st_listed P_listed f_listed := by
  obtain ⟨f, fd, hm, Fd⟩ := T.d_listed
  refine ⟨f, fd, fn_ok Fd sc_listed fun cdv A around s H E gr => ?_, hm, Fd⟩
  have hN : N_listed.Nodup := sc_listed.nd
  have tk : Takes (cxOf (L2.CX P w) P w K mg base N_listed "listed" (defScope st_listed) f cdv A around s H E) (WD E) := takes_of rfl rfl rfl rfl
  unfold m_listed
  exact sss_cons (ss_set 1 hN (se_lst (sa_nil)))
    (sss_cons (ss_for (passes_of rfl) rfl (si_any (se_var 0)) (sg_name 2 hN) (sss_one (ss_expr (se_mt (c := .lst) F.plainAttrs_list F.slot_list_extend F.type_list_extend t_extend (se_var 1) (sa_cons (se_lst (sa_cons (se_str) (sa_cons (se_var 2) (sa_nil)))) (sa_nil))))))
    (sss_one (ss_ret (se_slice (se_var 1) (so_some (se_int)) (so_none)))))
theorem c_length_in (T : Tops P K mg) : Cal P w K mg base (k + 1) "length_in" st_length_in P_length_in f_length_in := by
  obtain ⟨f, fd, hm, Fd⟩ := T.d_length_in
  refine ⟨f, fd, fn_ok Fd sc_length_in fun cdv A around s H E gr => ?_, hm, Fd⟩
  have hN : N_length_in.Nodup := sc_length_in.nd
  have tk : Takes (cxOf (L2.CX P w) P w K mg base N_length_in "length_in" (defScope st_length_in) f cdv A around s H E) (WD E) := takes_of rfl rfl rfl rfl
  unfold m_length_in
  exact sss_one (ss_ret (se_callB (c_sum rfl) T.b_sum (by decide +kernel) (sa_cons (se_lc (own := [("part", 2)]) rfl hN (si_any (se_var 0)) (blkOk_by (N := N_length_in) (sc := defScope st_length_in) (by decide +kernel)) (fun _ _ _ _ _ => sg_name 2 hN) (fun _ _ _ _ _ => sts_nil) (fun _ _ _ _ _ => se_if (st_tru (se_callB c_isi T.b_isinstance (by decide +kernel) (sa_cons (se_var 2) (sa_cons (se_ty T.b_str (by decide +kernel)) (sa_nil))))) (se_int) (se_ix gr.u1 (se_var 1) (se_var 2) (fun _ _ => rfl))) (by decide)) (sa_nil))))
theorem c__law_hand (T : Tops P K mg) : Cal P w K mg base (k + 1) "_law_hand" st__law_hand P__law_hand f__law_hand := by
  obtain ⟨f, fd, hm, Fd⟩ := T.d__law_hand
  refine ⟨f, fd, fn_ok Fd sc__law_hand fun cdv A around s H E gr => ?_, hm, Fd⟩
  have hN : N__law_hand.Nodup := sc__law_hand.nd
  have tk : Takes (cxOf (L2.CX P w) P w K mg base N__law_hand "_law_hand" (defScope st__law_hand) f cdv A around s H E) (WD E) := takes_of rfl rfl rfl rfl
  unfold m__law_hand
  exact sss_cons (ss_par 2 3 rfl hN (sa_cons (se_callTy c_list T.b_list (by decide +kernel) (sa_cons (se_slice (se_var 0) (so_none) (so_some (se_int))) (sa_nil))) (sa_cons (se_int) (sa_nil))))
    (sss_cons (ss_for (passes_of rfl) rfl (si_any (se_var 2)) (sg_name 1 hN) (sss_one (ss_set 3 hN (se_bin o_mod (se_bin o_add (se_bin o_add (se_bin o_mul (se_var 3) (se_int)) (se_bin o_mod (se_var 1) (se_int))) (se_int)) (se_int)))))
    (sss_one (ss_ret (se_dct (.cons (se_rev (se_var 2)) (.cons (se_var 3) (.cons (se_int) (.nil)))) (by simp) (by decide)))))
theorem c__law_draw (T : Tops P K mg) : Cal P w K mg base (k + 1) "_law_draw" st__law_draw P__law_draw f__law_draw := by
  obtain ⟨f, fd, hm, Fd⟩ := T.d__law_draw
  refine ⟨f, fd, fn_ok Fd sc__law_draw fun cdv A around s H E gr => ?_, hm, Fd⟩
  have hN : N__law_draw.Nodup := sc__law_draw.nd
  have tk : Takes (cxOf (L2.CX P w) P w K mg base N__law_draw "_law_draw" (defScope st__law_draw) f cdv A around s H E) (WD E) := takes_of rfl rfl rfl rfl
  unfold m__law_draw
  exact sss_cons (ss_sub gr.u1 (se_var 0) (se_str) (se_bin o_add (se_ix gr.u1 (se_var 0) (se_str) (fun _ _ => rfl)) (se_int)))
    (sss_cons (ss_set 2 hN (se_bin o_add (se_ix gr.u1 (se_var 0) (se_str) (fun _ _ => rfl)) (se_bin o_mul (se_int) (se_ix gr.u1 (se_var 0) (se_str) (fun _ _ => rfl)))))
    (sss_cons (ss_if (st_cmp (o_ne gr.u64 T.sk) (se_ix gr.u1 (se_var 0) (se_str) (fun _ _ => rfl)) (se_lst (sa_nil)) (nobehind _ (by decide) (by decide))) (sss_cons (ss_set 3 hN (se_mt0 (c := .lst) F.plainAttrs_list F.slot_list_pop F.type_list_pop t_pop (se_ix gr.u1 (se_var 0) (se_str) (fun _ _ => rfl))))
    (sss_cons (ss_if (st_cmp o_ge (se_var 3) (se_bin o_pow (se_int) (se_int)) (nobehind _ (by decide) (by decide))) (sss_cons (ss_expr (se_mt (c := .lst) F.plainAttrs_list F.slot_list_append F.type_list_append t_append (se_ix gr.u1 (se_var 0) (se_str) (fun _ _ => rfl)) (sa_cons (se_bin o_fdiv (se_var 3) (se_var 1)) (sa_nil))))
    (sss_one (ss_ret (se_bin o_mod (se_var 3) (se_var 1))))) (sss_nil))
    (sss_one (ss_set 2 hN (se_bin o_add (se_var 2) (se_var 3)))))) (sss_nil))
    (sss_cons (ss_set 2 hN (se_bin o_mod (se_bin o_mul (se_bin o_mod (se_var 2) (se_int)) (se_int)) (se_int)))
    (sss_cons (ss_set 2 hN (se_bin o_mod (se_bin o_add (se_bin o_add (se_bin o_mul (se_var 2) (se_var 2)) (se_bin o_mul (se_int) (se_ix gr.u1 (se_var 0) (se_str) (fun _ _ => rfl)))) (se_int)) (se_int)))
    (sss_one (ss_ret (se_bin o_mod (se_bin o_fdiv (se_bin o_mod (se_bin o_mul (se_var 2) (se_int)) (se_int)) (se_int)) (se_var 1))))))))
theorem c__law_between (T : Tops P K mg) : Cal P w K mg base (k + 1) "_law_between" st__law_between P__law_between f__law_between := by
  obtain ⟨f, fd, hm, Fd⟩ := T.d__law_between
  refine ⟨f, fd, fn_ok Fd sc__law_between fun cdv A around s H E gr => ?_, hm, Fd⟩
  have hN : N__law_between.Nodup := sc__law_between.nd
  have tk : Takes (cxOf (L2.CX P w) P w K mg base N__law_between "_law_between" (defScope st__law_between) f cdv A around s H E) (WD E) := takes_of rfl rfl rfl rfl
  unfold m__law_between
  exact sss_cons (ss_set 1 hN (se_lst (sa_nil)))
    (sss_cons (ss_for (passes_of rfl) rfl (si_enum rfl T.b_enumerate (sa_cons (se_var 0) (sa_nil))) (sg_tup rfl (sgs_cons (sg_name 2 hN) (sgs_cons (sg_name 3 hN) (sgs_nil)))) (sss_one (ss_set 1 hN (se_bin o_add (se_bin o_add (se_var 1) (se_bin o_mul (se_lst (sa_cons (se_str) (sa_nil))) (se_callTy c_int T.b_int (by decide +kernel) (sa_cons (se_cmp o_gt (se_var 2) (se_int) (nobehind _ (by decide) (by decide))) (sa_nil))))) (se_var 3)))))
    (sss_one (ss_ret (se_var 1))))
theorem c__law_size (T : Tops P K mg) : Cal P w K mg base (k + 1) "_law_size" st__law_size P__law_size f__law_size := by
  obtain ⟨f, fd, hm, Fd⟩ := T.d__law_size
  refine ⟨f, fd, fn_ok Fd sc__law_size fun cdv A around s H E gr => ?_, hm, Fd⟩
  have hN : N__law_size.Nodup := sc__law_size.nd
  have tk : Takes (cxOf (L2.CX P w) P w K mg base N__law_size "_law_size" (defScope st__law_size) f cdv A around s H E) (WD E) := takes_of rfl rfl rfl rfl
  unfold m__law_size
  exact sss_cons (ss_if (st_cmp (o_eq gr.u64 T.sk) (se_ix gr.u1 (se_var 0) (se_int) (fun _ _ => rfl)) (se_str) (nobehind _ (by decide) (by decide))) (sss_one (ss_ret (se_int))) (sss_nil))
    (sss_cons (ss_setLc 2 (own := [("k", 3)]) rfl hN (si_any (se_ix gr.u1 (se_var 0) (se_int) (fun _ _ => rfl))) (blkOk_by (N := N__law_size) (sc := defScope st__law_size) (by decide +kernel)) (fun _ _ _ _ _ => sg_name 3 hN) (fun _ _ _ _ _ => sts_nil) (fun _ _ _ _ _ => se_ix gr.u1 (se_var 1) (se_var 3) (fun _ _ => rfl)) (by decide) (sw_true rfl rfl rfl (by decide +kernel)))
    (sss_cons (ss_if (st_cmp (o_eq gr.u64 T.sk) (se_ix gr.u1 (se_var 0) (se_int) (fun _ _ => rfl)) (se_str) (nobehind _ (by decide) (by decide))) (sss_one (ss_ret (se_bin o_add (se_callB (c_sum rfl) T.b_sum (by decide +kernel) (sa_cons (se_var 2) (sa_nil))) (se_int)))) (sss_nil))
    (sss_one (ss_ret (se_bin o_add (se_callB (c_sum rfl) T.b_sum (by decide +kernel) (sa_cons (se_var 2) (sa_nil))) (se_if (st_cmp (o_eq gr.u64 T.sk) (se_ix gr.u1 (se_var 0) (se_int) (fun _ _ => rfl)) (se_str) (nobehind _ (by decide) (by decide))) (se_bin o_add (se_int) (se_callB (c_max rfl) T.b_max (by decide +kernel) (sa_cons (se_int) (sa_cons (se_callB c_len T.b_len (by decide +kernel) (sa_cons (se_var 2) (sa_nil))) (sa_nil))))) (se_bin o_add (se_int) (se_callB (c_max rfl) T.b_max (by decide +kernel) (sa_cons (se_int) (sa_cons (se_bin o_sub (se_callB c_len T.b_len (by decide +kernel) (sa_cons (se_var 2) (sa_nil))) (se_int)) (sa_nil)))))))))))
theorem c_parts_of (T : Tops P K mg) (C_listed : Cal P w K mg base k "listed" st_listed P_listed f_listed) : Cal P w K mg base (k + 1) "parts_of" st_parts_of P_parts_of f_parts_of := by
  obtain ⟨f, fd, hm, Fd⟩ := T.d_parts_of
  refine ⟨f, fd, fn_ok Fd sc_parts_of fun cdv A around s H E gr => ?_, hm, Fd⟩
  have hN : N_parts_of.Nodup := sc_parts_of.nd
  have tk : Takes (cxOf (L2.CX P w) P w K mg base N_parts_of "parts_of" (defScope st_parts_of) f cdv A around s H E) (WD E) := takes_of rfl rfl rfl rfl
  unfold m_parts_of
  exact sss_cons (ss_if (st_cmp (o_eq gr.u64 T.sk) (se_ix gr.u1 (se_var 0) (se_int) (fun _ _ => rfl)) (se_gstr rfl T.g_TOKEN) (nobehind _ (by decide) (by decide))) (sss_one (ss_ret (se_lst (sa_cons (se_ix gr.u1 (se_var 0) (se_int) (fun _ _ => rfl)) (sa_nil))))) (sss_nil))
    (sss_cons (ss_asg (se_var 0) (sg_tup rfl (sgs_cons (sg_name 1 hN) (sgs_cons (sg_name 2 hN) (sgs_cons (sg_name 3 hN) (sgs_nil))))))
    (sss_cons (ss_if (st_cmp (o_eq gr.u64 T.sk) (se_var 1) (se_gstr rfl T.g_CALL) (nobehind _ (by decide) (by decide))) (sss_one (ss_ret (se_lst (sa_cons (se_var 2) (sa_cons (se_str) (sa_star (se_call C_listed gr tk b_listed (sa_cons (se_var 3) (sa_nil))) (sa_cons (se_str) (sa_nil)))))))) (sss_nil))
    (sss_cons (ss_if (st_cmp (o_eq gr.u64 T.sk) (se_var 1) (se_gstr rfl T.g_METHOD) (nobehind _ (by decide) (by decide))) (sss_one (ss_ret (se_lst (sa_cons (se_ix gr.u1 (se_var 3) (se_int) (fun _ _ => rfl)) (sa_cons (se_str) (sa_cons (se_var 2) (sa_cons (se_str) (sa_star (se_call C_listed gr tk b_listed (sa_cons (se_slice (se_var 3) (so_some (se_int)) (so_none)) (sa_nil))) (sa_cons (se_str) (sa_nil)))))))))) (sss_nil))
    (sss_one (ss_ret (se_lst (sa_cons (se_str) (sa_cons (se_ix gr.u1 (se_var 3) (se_int) (fun _ _ => rfl)) (sa_cons (se_var 2) (sa_cons (se_ix gr.u1 (se_var 3) (se_int) (fun _ _ => rfl)) (sa_cons (se_str) (sa_nil))))))))))))
theorem c__law_pick (T : Tops P K mg) (C__law_draw : Cal P w K mg base k "_law_draw" st__law_draw P__law_draw f__law_draw) : Cal P w K mg base (k + 1) "_law_pick" st__law_pick P__law_pick f__law_pick := by
  obtain ⟨f, fd, hm, Fd⟩ := T.d__law_pick
  refine ⟨f, fd, fn_ok Fd sc__law_pick fun cdv A around s H E gr => ?_, hm, Fd⟩
  have hN : N__law_pick.Nodup := sc__law_pick.nd
  have tk : Takes (cxOf (L2.CX P w) P w K mg base N__law_pick "_law_pick" (defScope st__law_pick) f cdv A around s H E) (WD E) := takes_of rfl rfl rfl rfl
  unfold m__law_pick
  exact sss_one (ss_ret (se_ix gr.u1 (se_var 1) (se_call C__law_draw gr tk b__law_draw (sa_cons (se_var 0) (sa_cons (se_callB c_len T.b_len (by decide +kernel) (sa_cons (se_var 1) (sa_nil))) (sa_nil)))) (fun _ _ => rfl)))
theorem c__law_written (T : Tops P K mg) (C__law_between : Cal P w K mg base k "_law_between" st__law_between P__law_between f__law_between) : Cal P w K mg base (k + 1) "_law_written" st__law_written P__law_written f__law_written := by
  obtain ⟨f, fd, hm, Fd⟩ := T.d__law_written
  refine ⟨f, fd, fn_ok Fd sc__law_written fun cdv A around s H E gr => ?_, hm, Fd⟩
  have hN : N__law_written.Nodup := sc__law_written.nd
  have tk : Takes (cxOf (L2.CX P w) P w K mg base N__law_written "_law_written" (defScope st__law_written) f cdv A around s H E) (WD E) := takes_of rfl rfl rfl rfl
  unfold m__law_written
  exact sss_cons (ss_set 1 hN (se_lst (sa_nil)))
    (sss_cons (ss_for (passes_of rfl) rfl (si_any (se_var 0)) (sg_name 2 hN) (sss_cons (ss_if (st_cmp (o_eq gr.u64 T.sk) (se_ix gr.u1 (se_var 2) (se_int) (fun _ _ => rfl)) (se_str) (nobehind _ (by decide) (by decide))) (sss_cons (ss_expr (se_mt (c := .lst) F.plainAttrs_list F.slot_list_append F.type_list_append t_append (se_var 1) (sa_cons (se_lst (sa_cons (se_ix gr.u1 (se_var 2) (se_int) (fun _ _ => rfl)) (sa_nil))) (sa_nil))))
    (sss_one (ss_continue))) (sss_nil))
    (sss_cons (ss_setLc 3 (own := [("k", 4)]) rfl hN (si_any (se_ix gr.u1 (se_var 2) (se_int) (fun _ _ => rfl))) (blkOk_by (N := N__law_written) (sc := defScope st__law_written) (by decide +kernel)) (fun _ _ _ _ _ => sg_name 4 hN) (fun _ _ _ _ _ => sts_nil) (fun _ _ _ _ _ => se_ix gr.u1 (se_var 1) (se_var 4) (fun _ _ => rfl)) (by decide) (sw_true rfl rfl rfl (by decide +kernel)))
    (sss_one (ss_if (st_cmp (o_eq gr.u64 T.sk) (se_ix gr.u1 (se_var 2) (se_int) (fun _ _ => rfl)) (se_str) (nobehind _ (by decide) (by decide))) (sss_one (ss_expr (se_mt (c := .lst) F.plainAttrs_list F.slot_list_append F.type_list_append t_append (se_var 1) (sa_cons (se_bin o_add (se_bin o_add (se_bin o_add (se_bin o_add (se_lst (sa_cons (se_str) (sa_nil))) (se_ix gr.u1 (se_var 3) (se_int) (fun _ _ => rfl))) (se_lst (sa_cons (se_ix gr.u1 (se_var 2) (se_int) (fun _ _ => rfl)) (sa_nil)))) (se_ix gr.u1 (se_var 3) (se_int) (fun _ _ => rfl))) (se_lst (sa_cons (se_str) (sa_nil)))) (sa_nil))))) (sss_one (ss_if (st_cmp (o_eq gr.u64 T.sk) (se_ix gr.u1 (se_var 2) (se_int) (fun _ _ => rfl)) (se_str) (nobehind _ (by decide) (by decide))) (sss_one (ss_expr (se_mt (c := .lst) F.plainAttrs_list F.slot_list_append F.type_list_append t_append (se_var 1) (sa_cons (se_bin o_add (se_bin o_add (se_lst (sa_cons (se_ix gr.u1 (se_var 2) (se_int) (fun _ _ => rfl)) (sa_cons (se_str) (sa_nil)))) (se_call C__law_between gr tk b__law_between (sa_cons (se_var 3) (sa_nil)))) (se_lst (sa_cons (se_str) (sa_nil)))) (sa_nil))))) (sss_one (ss_expr (se_mt (c := .lst) F.plainAttrs_list F.slot_list_append F.type_list_append t_append (se_var 1) (sa_cons (se_bin o_add (se_bin o_add (se_bin o_add (se_ix gr.u1 (se_var 3) (se_int) (fun _ _ => rfl)) (se_lst (sa_cons (se_str) (sa_cons (se_ix gr.u1 (se_var 2) (se_int) (fun _ _ => rfl)) (sa_cons (se_str) (sa_nil)))))) (se_call C__law_between gr tk b__law_between (sa_cons (se_slice (se_var 3) (so_some (se_int)) (so_none)) (sa_nil)))) (se_lst (sa_cons (se_str) (sa_nil)))) (sa_nil))))))))))))
    (sss_one (ss_ret (se_var 1))))
theorem c_length_of (T : Tops P K mg) (C_length_in : Cal P w K mg base k "length_in" st_length_in P_length_in f_length_in) (C_parts_of : Cal P w K mg base k "parts_of" st_parts_of P_parts_of f_parts_of) : Cal P w K mg base (k + 1) "length_of" st_length_of P_length_of f_length_of := by
  obtain ⟨f, fd, hm, Fd⟩ := T.d_length_of
  refine ⟨f, fd, fn_ok Fd sc_length_of fun cdv A around s H E gr => ?_, hm, Fd⟩
  have hN : N_length_of.Nodup := sc_length_of.nd
  have tk : Takes (cxOf (L2.CX P w) P w K mg base N_length_of "length_of" (defScope st_length_of) f cdv A around s H E) (WD E) := takes_of rfl rfl rfl rfl
  unfold m_length_of
  exact sss_cons (ss_set 2 hN (se_lst (sa_nil)))
    (sss_cons (ss_for (passes_of rfl) rfl (si_any (se_var 0)) (sg_name 3 hN) (sss_one (ss_expr (se_mt (c := .lst) F.plainAttrs_list F.slot_list_append F.type_list_append t_append (se_var 2) (sa_cons (se_call C_length_in gr tk b_length_in (sa_cons (se_call C_parts_of gr tk b_parts_of (sa_cons (se_var 3) (sa_nil))) (sa_cons (se_var 2) (sa_nil)))) (sa_nil))))))
    (sss_one (ss_ret (se_call C_length_in gr tk b_length_in (sa_cons (se_var 1) (sa_cons (se_var 2) (sa_nil)))))))
theorem c__law_step (T : Tops P K mg) (C__law_draw : Cal P w K mg base k "_law_draw" st__law_draw P__law_draw f__law_draw) (C__law_pick : Cal P w K mg base k "_law_pick" st__law_pick P__law_pick f__law_pick) : Cal P w K mg base (k + 1) "_law_step" st__law_step P__law_step f__law_step := by
  obtain ⟨f, fd, hm, Fd⟩ := T.d__law_step
  refine ⟨f, fd, fn_ok Fd sc__law_step fun cdv A around s H E gr => ?_, hm, Fd⟩
  have hN : N__law_step.Nodup := sc__law_step.nd
  have tk : Takes (cxOf (L2.CX P w) P w K mg base N__law_step "_law_step" (defScope st__law_step) f cdv A around s H E) (WD E) := takes_of rfl rfl rfl rfl
  unfold m__law_step
  exact sss_cons (ss_set 2 hN (se_call C__law_pick gr tk b__law_pick (sa_cons (se_var 0) (sa_cons (se_lst (sa_cons (se_str) (sa_cons (se_str) (sa_cons (se_str) (sa_cons (se_str) (sa_nil)))))) (sa_nil)))))
    (sss_cons (ss_if (PW.pt (sw_or (st_cmp (o_eq gr.u64 T.sk) (se_var 2) (se_str) (nobehind _ (by decide) (by decide))) (sw_or1 (st_cmp (o_eq gr.u64 T.sk) (se_var 1) (se_int) (nobehind _ (by decide) (by decide)))))) (sss_one (ss_ret (se_tup (sa_cons (se_str) (sa_cons (se_call C__law_pick gr tk b__law_pick (sa_cons (se_var 0) (sa_cons (se_lst (sa_cons (se_str) (sa_cons (se_str) (sa_cons (se_str) (sa_cons (se_str) (sa_cons (se_str) (sa_cons (se_str) (sa_cons (se_str) (sa_nil))))))))) (sa_nil)))) (sa_nil)))))) (sss_nil))
    (sss_cons (ss_if (st_cmp (o_eq gr.u64 T.sk) (se_var 2) (se_str) (nobehind _ (by decide) (by decide))) (sss_cons (ss_set 5 hN (se_call C__law_pick gr tk b__law_pick (sa_cons (se_var 0) (sa_cons (se_lst (sa_cons (se_str) (sa_cons (se_str) (sa_cons (se_str) (sa_cons (se_str) (sa_cons (se_str) (sa_cons (se_str) (sa_cons (se_str) (sa_nil))))))))) (sa_nil)))))
    (sss_one (ss_ret (se_tup (sa_cons (se_var 2) (sa_cons (se_var 5) (sa_cons (se_tup (sa_cons (se_call C__law_draw gr tk b__law_draw (sa_cons (se_var 0) (sa_cons (se_var 1) (sa_nil)))) (sa_cons (se_call C__law_draw gr tk b__law_draw (sa_cons (se_var 0) (sa_cons (se_var 1) (sa_nil)))) (sa_nil)))) (sa_nil)))))))) (sss_nil))
    (sss_cons (ss_set 3 hN (se_if (st_cmp (o_eq gr.u64 T.sk) (se_var 2) (se_str) (nobehind _ (by decide) (by decide))) (se_call C__law_pick gr tk b__law_pick (sa_cons (se_var 0) (sa_cons (se_lst (sa_cons (se_int) (sa_cons (se_int) (sa_cons (se_int) (sa_cons (se_int) (sa_cons (se_int) (sa_nil))))))) (sa_nil)))) (se_call C__law_pick gr tk b__law_pick (sa_cons (se_var 0) (sa_cons (se_lst (sa_cons (se_int) (sa_cons (se_int) (sa_cons (se_int) (sa_cons (se_int) (sa_cons (se_int) (sa_nil))))))) (sa_nil))))))
    (sss_cons (ss_set 4 hN (se_callTy c_tuple T.b_tuple (by decide +kernel) (sa_cons (se_lc (own := [("k", 6)]) rfl hN (si_range1 rfl T.b_range (sa_cons (se_var 3) (sa_nil))) (blkOk_by (N := N__law_step) (sc := defScope st__law_step) (by decide +kernel)) (fun _ _ _ _ _ => sg_name 6 hN) (fun _ _ _ _ _ => sts_nil) (fun _ _ _ _ _ => se_call C__law_pick gr takes0 b__law_pick (sa_cons (se_var 0) (sa_cons (se_lst (sa_cons (se_bin o_sub (se_var 1) (se_int)) (sa_cons (se_call C__law_draw gr takes0 b__law_draw (sa_cons (se_var 0) (sa_cons (se_var 1) (sa_nil)))) (sa_nil)))) (sa_nil)))) (by decide)) (sa_nil))))
    (sss_one (ss_ret (se_tup (sa_cons (se_var 2) (sa_cons (se_call C__law_pick gr tk b__law_pick (sa_cons (se_var 0) (sa_cons (se_lst (sa_cons (se_str) (sa_cons (se_str) (sa_cons (se_str) (sa_cons (se_str) (sa_cons (se_str) (sa_nil))))))) (sa_nil)))) (sa_cons (se_var 4) (sa_nil)))))))))))
theorem c_tokens_of (T : Tops P K mg) (C_parts_of : Cal P w K mg base k "parts_of" st_parts_of P_parts_of f_parts_of) (C_length_of : Cal P w K mg base k "length_of" st_length_of P_length_of f_length_of) : Cal P w K mg base (k + 1) "tokens_of" st_tokens_of P_tokens_of f_tokens_of := by
  obtain ⟨f, fd, hm, Fd⟩ := T.d_tokens_of
  refine ⟨f, fd, fn_ok Fd sc_tokens_of fun cdv A around s H E gr => ?_, hm, Fd⟩
  have hN : N_tokens_of.Nodup := sc_tokens_of.nd
  have tk : Takes (cxOf (L2.CX P w) P w K mg base N_tokens_of "tokens_of" (defScope st_tokens_of) f cdv A around s H E) (WD E) := takes_of rfl rfl rfl rfl
  unfold m_tokens_of
  exact sss_cons (ss_set 3 hN (se_call C_length_of gr tk b_length_of (sa_cons (se_var 0) (sa_cons (se_var 1) (sa_nil)))))
    (sss_cons (ss_if (st_cmp o_gt (se_var 3) (se_var 2) (nobehind _ (by decide) (by decide))) (sss_one (ss_raise rfl tk T.x_TooLong gr (sa_cons (se_var 3) (sa_nil)))) (sss_nil))
    (sss_cons (ss_par 4 5 rfl hN (sa_cons (se_lst (sa_nil)) (sa_cons (se_callTy c_list T.b_list (by decide +kernel) (sa_cons (se_rev (se_var 1)) (sa_nil))) (sa_nil))))
    (sss_cons (ss_while (passes_of rfl) (st_cmp (o_ne gr.u64 T.sk) (se_var 5) (se_lst (sa_nil)) (nobehind _ (by decide) (by decide))) (sss_cons (ss_set 6 hN (se_mt0 (c := .lst) F.plainAttrs_list F.slot_list_pop F.type_list_pop t_pop (se_var 5)))
    (sss_one (ss_if (st_tru (se_callB c_isi T.b_isinstance (by decide +kernel) (sa_cons (se_var 6) (sa_cons (se_ty T.b_str (by decide +kernel)) (sa_nil))))) (sss_one (ss_expr (se_mt (c := .lst) F.plainAttrs_list F.slot_list_append F.type_list_append t_append (se_var 4) (sa_cons (se_var 6) (sa_nil))))) (sss_one (ss_expr (se_mt (c := .lst) F.plainAttrs_list F.slot_list_extend F.type_list_extend t_extend (se_var 5) (sa_cons (se_rev (se_call C_parts_of gr tk b_parts_of (sa_cons (se_ix gr.u1 (se_var 0) (se_var 6) (fun _ _ => rfl)) (sa_nil)))) (sa_nil)))))))))
    (sss_one (ss_ret (se_callTy c_tuple T.b_tuple (by decide +kernel) (sa_cons (se_var 4) (sa_nil))))))))
theorem c__law_rows (T : Tops P K mg) (C__law_draw : Cal P w K mg base k "_law_draw" st__law_draw P__law_draw f__law_draw) (C__law_size : Cal P w K mg base k "_law_size" st__law_size P__law_size f__law_size) (C__law_step : Cal P w K mg base k "_law_step" st__law_step P__law_step f__law_step) : Cal P w K mg base (k + 1) "_law_rows" st__law_rows P__law_rows f__law_rows := by
  obtain ⟨f, fd, hm, Fd⟩ := T.d__law_rows
  refine ⟨f, fd, fn_ok Fd sc__law_rows fun cdv A around s H E gr => ?_, hm, Fd⟩
  have hN : N__law_rows.Nodup := sc__law_rows.nd
  have tk : Takes (cxOf (L2.CX P w) P w K mg base N__law_rows "_law_rows" (defScope st__law_rows) f cdv A around s H E) (WD E) := takes_of rfl rfl rfl rfl
  unfold m__law_rows
  exact sss_cons (ss_par 2 3 rfl hN (sa_cons (se_lst (sa_nil)) (sa_cons (se_lst (sa_nil)) (sa_nil))))
    (sss_cons (ss_for (passes_of rfl) rfl (si_range1 rfl T.b_range (sa_cons (se_bin o_add (se_int) (se_call C__law_draw gr tk b__law_draw (sa_cons (se_var 0) (sa_cons (se_int) (sa_nil))))) (sa_nil))) (sg_name 1 hN) (sss_cons (ss_set 4 hN (se_call C__law_step gr tk b__law_step (sa_cons (se_var 0) (sa_cons (se_callB c_len T.b_len (by decide +kernel) (sa_cons (se_var 2) (sa_nil))) (sa_nil)))))
    (sss_one (ss_if (st_cmp o_le (se_call C__law_size gr tk b__law_size (sa_cons (se_var 4) (sa_cons (se_var 3) (sa_nil)))) (se_int) (nobehind _ (by decide) (by decide))) (sss_cons (ss_expr (se_mt (c := .lst) F.plainAttrs_list F.slot_list_append F.type_list_append t_append (se_var 2) (sa_cons (se_var 4) (sa_nil))))
    (sss_one (ss_expr (se_mt (c := .lst) F.plainAttrs_list F.slot_list_append F.type_list_append t_append (se_var 3) (sa_cons (se_call C__law_size gr tk b__law_size (sa_cons (se_var 4) (sa_cons (se_var 3) (sa_nil)))) (sa_nil)))))) (sss_nil)))))
    (sss_one (ss_ret (se_callTy c_tuple T.b_tuple (by decide +kernel) (sa_cons (se_var 2) (sa_nil))))))
theorem c__law_heard (T : Tops P K mg) (C_tokens_of : Cal P w K mg base k "tokens_of" st_tokens_of P_tokens_of f_tokens_of) : Cal P w K mg base (k + 1) "_law_heard" st__law_heard P__law_heard f__law_heard := by
  obtain ⟨f, fd, hm, Fd⟩ := T.d__law_heard
  refine ⟨f, fd, fn_ok Fd sc__law_heard fun cdv A around s H E gr => ?_, hm, Fd⟩
  have hN : N__law_heard.Nodup := sc__law_heard.nd
  have tk : Takes (cxOf (L2.CX P w) P w K mg base N__law_heard "_law_heard" (defScope st__law_heard) f cdv A around s H E) (WD E) := takes_of rfl rfl rfl rfl
  unfold m__law_heard
  exact sss_cons (ss_set 3 hN (se_non))
    (sss_cons ((let ⟨c, hc, hy, hn⟩ := T.h_TooLong; ss_try_as 4 y_TooLong n_TooLong tk hN ⟨rfl, by decide, .inl hc⟩ hy hn (fun W pn xe tk po => sss_one (ss_set 3 hN (se_if (st_cmp o_isnot (se_var 2) (se_non) (nobehind _ (by decide) (by decide))) (se_callK (ks := ["most"]) C_tokens_of gr tk [(false, 0), (false, 1), (true, 0)] bk0_tokens_of (sa_cons (se_var 0) (sa_cons (se_var 1) (sa_nil))) (sk_cons (se_var 2) (sk_nil)) (len_cons (len_cons len_nil)) (len_cons len_nil)) (se_callD C_tokens_of gr tk T.k_tokens_of (sa_cons (se_var 0) (sa_cons (se_var 1) (sa_nil))))))) (fun a oe cls d pn hz hf => xs_one (xs_set 3 hN (xe_if (xt_tru ((let ⟨G, hG, hy, hn⟩ := T.i_GapError; xe_isi (i := 4) y_GapError n_GapError T.b_isinstance hG hy hn hz hf))) (xe_lst (xa_cons (xe_fld (i := 4) y_TooLong T.f_TooLong_length hz hf) (xa_nil))) (xe_of (se_lst (sa_cons (se_str) (sa_nil)))))))))
    (sss_one (ss_ret (se_var 3))))
theorem c__law_right (T : Tops P K mg) (C__law_draw : Cal P w K mg base k "_law_draw" st__law_draw P__law_draw f__law_draw) (C__law_written : Cal P w K mg base k "_law_written" st__law_written P__law_written f__law_written) (C_length_of : Cal P w K mg base k "length_of" st_length_of P_length_of f_length_of) (C_tokens_of : Cal P w K mg base k "tokens_of" st_tokens_of P_tokens_of f_tokens_of) (C__law_heard : Cal P w K mg base k "_law_heard" st__law_heard P__law_heard f__law_heard) : Cal P w K mg base (k + 1) "_law_right" st__law_right P__law_right f__law_right := by
  obtain ⟨f, fd, hm, Fd⟩ := T.d__law_right
  refine ⟨f, fd, fn_ok Fd sc__law_right fun cdv A around s H E gr => ?_, hm, Fd⟩
  have hN : N__law_right.Nodup := sc__law_right.nd
  have tk : Takes (cxOf (L2.CX P w) P w K mg base N__law_right "_law_right" (defScope st__law_right) f cdv A around s H E) (WD E) := takes_of rfl rfl rfl rfl
  unfold m__law_right
  exact sss_cons (ss_par3 6 7 8 rfl hN (sa_cons (se_call C__law_written gr tk b__law_written (sa_cons (se_var 1) (sa_nil))) (sa_cons (se_lst (sa_nil)) (sa_cons (se_callB (c_repr gr.free gr.u100 T.sk) T.b_repr (by decide +kernel) (sa_cons (se_lst (sa_cons (se_var 1) (sa_cons (se_var 2) (sa_nil)))) (sa_nil))) (sa_nil)))))
    (sss_cons (ss_for (passes_of rfl) rfl (si_any (se_var 2)) (sg_name 3 hN) (sss_one (ss_set 7 hN (se_bin o_add (se_var 7) (se_if (st_tru (se_callB c_isi T.b_isinstance (by decide +kernel) (sa_cons (se_var 3) (sa_cons (se_ty T.b_str (by decide +kernel)) (sa_nil))))) (se_lst (sa_cons (se_var 3) (sa_nil))) (se_ix gr.u1 (se_var 6) (se_var 3) (fun _ _ => rfl)))))))
    (sss_cons (ss_set 4 hN (se_callB c_len T.b_len (by decide +kernel) (sa_cons (se_var 7) (sa_nil))))
    (sss_cons (ss_if (st_cmp (o_ne gr.u64 T.sk) (se_callB (c_repr gr.free gr.u100 T.sk) T.b_repr (by decide +kernel) (sa_cons (se_lst (sa_cons (se_call C_length_of gr tk b_length_of (sa_cons (se_var 1) (sa_cons (se_var 2) (sa_nil)))) (sa_cons (se_callK0 (ks := ["pieces", "rows"]) C_length_of gr tk [(true, 1), (true, 0)] bk2_length_of (sk_cons (se_var 2) (sk_cons (se_var 1) (sk_nil))) (len_cons (len_cons len_nil))) (sa_nil)))) (sa_nil))) (se_callB (c_repr gr.free gr.u100 T.sk) T.b_repr (by decide +kernel) (sa_cons (se_lst (sa_cons (se_var 4) (sa_cons (se_var 4) (sa_nil)))) (sa_nil))) (nobehind _ (by decide) (by decide))) (sss_one (ss_ret (se_bl))) (sss_nil))
    (sss_cons (ss_for (passes_of rfl) rfl (si_any (se_lst (sa_cons (se_var 4) (sa_cons (se_bin o_add (se_var 4) (se_call C__law_draw gr tk b__law_draw (sa_cons (se_var 0) (sa_cons (se_int) (sa_nil))))) (sa_cons (se_callB (c_max rfl) T.b_max (by decide +kernel) (sa_cons (se_int) (sa_cons (se_bin o_sub (se_var 4) (se_int)) (sa_nil)))) (sa_cons (se_int) (sa_cons (se_call C__law_draw gr tk b__law_draw (sa_cons (se_var 0) (sa_cons (se_int) (sa_nil)))) (sa_cons (se_non) (sa_nil))))))))) (sg_name 5 hN) (sss_cons (ss_set 9 hN (se_if (st_cmp o_le (se_var 4) (se_if (st_cmp o_is (se_var 5) (se_non) (nobehind _ (by decide) (by decide))) (se_int) (se_var 5)) (nobehind _ (by decide) (by decide))) (se_callB (c_repr gr.free gr.u100 T.sk) T.b_repr (by decide +kernel) (sa_cons (se_callTy c_tuple T.b_tuple (by decide +kernel) (sa_cons (se_var 7) (sa_nil))) (sa_nil))) (se_callB (c_repr gr.free gr.u100 T.sk) T.b_repr (by decide +kernel) (sa_cons (se_lst (sa_cons (se_var 4) (sa_nil))) (sa_nil)))))
    (sss_one (ss_if (st_cmp (o_ne gr.u64 T.sk) (se_callB (c_repr gr.free gr.u100 T.sk) T.b_repr (by decide +kernel) (sa_cons (se_call C__law_heard gr tk b__law_heard (sa_cons (se_var 1) (sa_cons (se_var 2) (sa_cons (se_var 5) (sa_nil))))) (sa_nil))) (se_var 9) (nobehind _ (by decide) (by decide))) (sss_one (ss_ret (se_bl))) (sss_nil)))))
    (sss_cons (ss_if (st_cmp (o_ne gr.u64 T.sk) (se_callB (c_repr gr.free gr.u100 T.sk) T.b_repr (by decide +kernel) (sa_cons (se_callK0 (ks := ["most", "pieces", "rows"]) C_tokens_of gr tk [(true, 2), (true, 1), (true, 0)] bk1_tokens_of (sk_cons (se_var 4) (sk_cons (se_var 2) (sk_cons (se_var 1) (sk_nil)))) (len_cons (len_cons (len_cons len_nil)))) (sa_nil))) (se_callB (c_repr gr.free gr.u100 T.sk) T.b_repr (by decide +kernel) (sa_cons (se_callTy c_tuple T.b_tuple (by decide +kernel) (sa_cons (se_var 7) (sa_nil))) (sa_nil))) (nobehind _ (by decide) (by decide))) (sss_one (ss_ret (se_bl))) (sss_nil))
    (sss_one (ss_ret (se_cmp (o_eq gr.u64 T.sk) (se_callB (c_repr gr.free gr.u100 T.sk) T.b_repr (by decide +kernel) (sa_cons (se_lst (sa_cons (se_var 1) (sa_cons (se_var 2) (sa_nil)))) (sa_nil))) (se_var 8) (nobehind _ (by decide) (by decide))))))))))
theorem c_law (T : Tops P K mg) (C__law_hand : Cal P w K mg base k "_law_hand" st__law_hand P__law_hand f__law_hand) (C__law_draw : Cal P w K mg base k "_law_draw" st__law_draw P__law_draw f__law_draw) (C__law_pick : Cal P w K mg base k "_law_pick" st__law_pick P__law_pick f__law_pick) (C__law_rows : Cal P w K mg base k "_law_rows" st__law_rows P__law_rows f__law_rows) (C__law_right : Cal P w K mg base k "_law_right" st__law_right P__law_right f__law_right) : Cal P w K mg base (k + 1) "law" st_law P_law f_law := by
  obtain ⟨f, fd, hm, Fd⟩ := T.d_law
  refine ⟨f, fd, fn_ok Fd sc_law fun cdv A around s H E gr => ?_, hm, Fd⟩
  have hN : N_law.Nodup := sc_law.nd
  have tk : Takes (cxOf (L2.CX P w) P w K mg base N_law "law" (defScope st_law) f cdv A around s H E) (WD E) := takes_of rfl rfl rfl rfl
  unfold m_law
  exact sss_cons (ss_set 1 hN (se_call C__law_hand gr tk b__law_hand (sa_cons (se_var 0) (sa_nil))))
    (sss_cons (ss_for (passes_of rfl) rfl (si_range1 rfl T.b_range (sa_cons (se_int) (sa_nil))) (sg_name 2 hN) (sss_cons (ss_set 3 hN (se_call C__law_rows gr tk b__law_rows (sa_cons (se_var 1) (sa_nil))))
    (sss_cons (ss_par 5 6 rfl hN (sa_cons (se_lst (sa_nil)) (sa_cons (se_lst (sa_cons (se_str) (sa_cons (se_str) (sa_cons (se_str) (sa_cons (se_str) (sa_cons (se_str) (sa_cons (se_str) (sa_nil)))))))) (sa_nil))))
    (sss_cons (ss_for (passes_of rfl) rfl (si_range1 rfl T.b_range (sa_cons (se_call C__law_pick gr tk b__law_pick (sa_cons (se_var 1) (sa_cons (se_lst (sa_cons (se_int) (sa_cons (se_int) (sa_cons (se_int) (sa_cons (se_int) (sa_cons (se_int) (sa_nil))))))) (sa_nil)))) (sa_nil))) (sg_name 4 hN) (sss_one (ss_expr (se_mt (c := .lst) F.plainAttrs_list F.slot_list_append F.type_list_append t_append (se_var 5) (sa_cons (se_call C__law_pick gr tk b__law_pick (sa_cons (se_var 1) (sa_cons (se_lst (sa_cons (se_call C__law_draw gr tk b__law_draw (sa_cons (se_var 1) (sa_cons (se_callB c_len T.b_len (by decide +kernel) (sa_cons (se_var 3) (sa_nil))) (sa_nil)))) (sa_cons (se_call C__law_pick gr tk b__law_pick (sa_cons (se_var 1) (sa_cons (se_var 6) (sa_nil)))) (sa_nil)))) (sa_nil)))) (sa_nil))))))
    (sss_one (ss_if (PW.pt (sw_or (st_not (st_tru (se_call C__law_right gr tk b__law_right (sa_cons (se_var 1) (sa_cons (se_var 3) (sa_cons (se_callTy c_tuple T.b_tuple (by decide +kernel) (sa_cons (se_var 5) (sa_nil))) (sa_nil))))))) (sw_or1 (st_not (st_tru (se_call C__law_right gr tk b__law_right (sa_cons (se_var 1) (sa_cons (se_var 3) (sa_cons (se_tup (sa_cons (se_bin o_sub (se_callB c_len T.b_len (by decide +kernel) (sa_cons (se_var 3) (sa_nil))) (se_int)) (sa_nil))) (sa_nil)))))))))) (sss_one (ss_ret (se_bl))) (sss_nil)))))))
    (sss_one (ss_ret (se_bl))))
/-- all of them, from the last one -/
theorem all_law (T : Tops P K mg) : Cal P w K mg base 7 "law" st_law P_law f_law := by
  have C_listed : Cal P w K mg base 1 "listed" st_listed P_listed f_listed := c_listed (k := 0) T
  have C_length_in : Cal P w K mg base 1 "length_in" st_length_in P_length_in f_length_in := c_length_in (k := 0) T
  have C__law_hand : Cal P w K mg base 1 "_law_hand" st__law_hand P__law_hand f__law_hand := c__law_hand (k := 0) T
  have C__law_draw : Cal P w K mg base 1 "_law_draw" st__law_draw P__law_draw f__law_draw := c__law_draw (k := 0) T
  have C__law_between : Cal P w K mg base 1 "_law_between" st__law_between P__law_between f__law_between := c__law_between (k := 0) T
  have C__law_size : Cal P w K mg base 1 "_law_size" st__law_size P__law_size f__law_size := c__law_size (k := 0) T
  have C_parts_of : Cal P w K mg base 2 "parts_of" st_parts_of P_parts_of f_parts_of := c_parts_of (k := 1) T (C_listed.mono (by decide))
  have C__law_pick : Cal P w K mg base 2 "_law_pick" st__law_pick P__law_pick f__law_pick := c__law_pick (k := 1) T (C__law_draw.mono (by decide))
  have C__law_written : Cal P w K mg base 2 "_law_written" st__law_written P__law_written f__law_written := c__law_written (k := 1) T (C__law_between.mono (by decide))
  have C_length_of : Cal P w K mg base 3 "length_of" st_length_of P_length_of f_length_of := c_length_of (k := 2) T (C_length_in.mono (by decide)) (C_parts_of.mono (by decide))
  have C__law_step : Cal P w K mg base 3 "_law_step" st__law_step P__law_step f__law_step := c__law_step (k := 2) T (C__law_draw.mono (by decide)) (C__law_pick.mono (by decide))
  have C_tokens_of : Cal P w K mg base 4 "tokens_of" st_tokens_of P_tokens_of f_tokens_of := c_tokens_of (k := 3) T (C_parts_of.mono (by decide)) (C_length_of.mono (by decide))
  have C__law_rows : Cal P w K mg base 4 "_law_rows" st__law_rows P__law_rows f__law_rows := c__law_rows (k := 3) T (C__law_draw.mono (by decide)) (C__law_size.mono (by decide)) (C__law_step.mono (by decide))
  have C__law_heard : Cal P w K mg base 5 "_law_heard" st__law_heard P__law_heard f__law_heard := c__law_heard (k := 4) T (C_tokens_of.mono (by decide))
  have C__law_right : Cal P w K mg base 6 "_law_right" st__law_right P__law_right f__law_right := c__law_right (k := 5) T (C__law_draw.mono (by decide)) (C__law_written.mono (by decide)) (C_length_of.mono (by decide)) (C_tokens_of.mono (by decide)) (C__law_heard.mono (by decide))
  have C_law : Cal P w K mg base 7 "law" st_law P_law f_law := c_law (k := 6) T (C__law_hand.mono (by decide)) (C__law_draw.mono (by decide)) (C__law_pick.mono (by decide)) (C__law_rows.mono (by decide)) (C__law_right.mono (by decide))
  exact C_law
end
/-- what the top has written, by its facts -/
theorem tops_mk {P : Program} {K : PySem.W.Frag} {h : Heap} {mg : Str → Option Value} (X : K.In h) (G : h.Ns mainGlobals mg)
    {t_CALL : Tok}
    {t_METHOD : Tok}
    {t_TOKEN : Tok}
    {C0 : Addr}
    {C1 : Addr}
    {fI1 cda1 cc1 : Addr}
    {nm_1 : _}
    {qn_1 : _}
    {N_1 : _}
    {bs_1 : _}
    {sn_1 : _}
    {sub_1 : _}
    {ab_1 : _}
    {col_1 : _}
    {dd_1 : _}
    {k0_1 : _}
    {k1_1 : _}
    {k2_1 : _}
    {k3_1 : _}
    {k5_1 : _}
    {nmg_0 : _}
    {qng_0 : _}
    {Ng_0 : _}
    {bsg_0 : _}
    {sng_0 : _}
    {subg_0 : _}
    {abg_0 : _}
    {colg_0 : _}
    {ddg_0 : _}
    {k0g_0 : _}
    {k1g_0 : _}
    {k2g_0 : _}
    {k3g_0 : _}
    {k5g_0 : _}
    {ocx_1 : _}
    {odx_1 : _}
    {docx_1 : _}
    {pmx_1 : _}
    {anx_1 : _}
    {ctx_1 : _}
    {oslx_1 : _}
    {cclx_1 : _}
    {cddx_1 : _}
    {vsx_1 : _}
    {ccsx_1 : _}
    {filex_1 : _}
    {tfx_1 : _}
    {clx_1 : _}
    {cldx_1 : _}
    {cslx_1 : _}
    {f0 : Addr} {od0 an0 : Option Addr} {sl0 : Array (Option Value)} {oc0 kV0 dc0v pm0 cd0 ct0 : Value}
    {f1 : Addr} {od1 an1 : Option Addr} {sl1 : Array (Option Value)} {oc1 kV1 dc1v pm1 cd1 ct1 : Value}
    {f2 : Addr} {od2 an2 : Option Addr} {sl2 : Array (Option Value)} {oc2 kV2 dc2v pm2 cd2 ct2 : Value}
    {f3 : Addr} {od3 an3 : Option Addr} {sl3 : Array (Option Value)} {oc3 kV3 dc3v pm3 cd3 ct3 : Value}
    {f4 : Addr} {od4 an4 : Option Addr} {sl4 : Array (Option Value)} {oc4 kV4 dc4v pm4 cd4 ct4 : Value}
    {f5 : Addr} {od5 an5 : Option Addr} {sl5 : Array (Option Value)} {oc5 kV5 dc5v pm5 cd5 ct5 : Value}
    {f6 : Addr} {od6 an6 : Option Addr} {sl6 : Array (Option Value)} {oc6 kV6 dc6v pm6 cd6 ct6 : Value}
    {f7 : Addr} {od7 an7 : Option Addr} {sl7 : Array (Option Value)} {oc7 kV7 dc7v pm7 cd7 ct7 : Value}
    {f8 : Addr} {od8 an8 : Option Addr} {sl8 : Array (Option Value)} {oc8 kV8 dc8v pm8 cd8 ct8 : Value}
    {f9 : Addr} {od9 an9 : Option Addr} {sl9 : Array (Option Value)} {oc9 kV9 dc9v pm9 cd9 ct9 : Value}
    {f10 : Addr} {od10 an10 : Option Addr} {sl10 : Array (Option Value)} {oc10 kV10 dc10v pm10 cd10 ct10 : Value}
    {f11 : Addr} {od11 an11 : Option Addr} {sl11 : Array (Option Value)} {oc11 kV11 dc11v pm11 cd11 ct11 : Value}
    {f12 : Addr} {od12 an12 : Option Addr} {sl12 : Array (Option Value)} {oc12 kV12 dc12v pm12 cd12 ct12 : Value}
    {f13 : Addr} {od13 an13 : Option Addr} {sl13 : Array (Option Value)} {oc13 kV13 dc13v pm13 cd13 ct13 : Value}
    {f14 : Addr} {od14 an14 : Option Addr} {sl14 : Array (Option Value)} {oc14 kV14 dc14v pm14 cd14 ct14 : Value}
    {f15 : Addr} {od15 an15 : Option Addr} {sl15 : Array (Option Value)} {oc15 kV15 dc15v pm15 cd15 ct15 : Value}
    {D11 : Addr} {tk11most : Tok}
    (yS : K.lookup sysModules = none)
    (z_enumerate : PySem.W.nsIn K mainGlobals "enumerate" = some none)
    (z_int : PySem.W.nsIn K mainGlobals "int" = some none)
    (z_isinstance : PySem.W.nsIn K mainGlobals "isinstance" = some none)
    (z_len : PySem.W.nsIn K mainGlobals "len" = some none)
    (z_list : PySem.W.nsIn K mainGlobals "list" = some none)
    (z_max : PySem.W.nsIn K mainGlobals "max" = some none)
    (z_range : PySem.W.nsIn K mainGlobals "range" = some none)
    (z_repr : PySem.W.nsIn K mainGlobals "repr" = some none)
    (z_str : PySem.W.nsIn K mainGlobals "str" = some none)
    (z_sum : PySem.W.nsIn K mainGlobals "sum" = some none)
    (z_tuple : PySem.W.nsIn K mainGlobals "tuple" = some none)
    (g_CALL : PySem.W.nsIn K mainGlobals "CALL" = some (some (.str "call" t_CALL)))
    (g_METHOD : PySem.W.nsIn K mainGlobals "METHOD" = some (some (.str "method" t_METHOD)))
    (g_TOKEN : PySem.W.nsIn K mainGlobals "TOKEN" = some (some (.str "token" t_TOKEN)))
    (xa0 : PySem.W.nsIn K mainGlobals "GapError" = some (some (.ref C0)))
    (xa1 : PySem.W.nsIn K mainGlobals "TooLong" = some (some (.ref C1)))
    (zsuper : PySem.W.nsIn K mainGlobals "super" = some none)
    (opq : PySem.W.nsIn K cStatics "thirdparty.any" = some none)
    (xtop : (P.main.scope.names.lookup ("super" : Str)).isSome = false)
    (xl1 : K.lookup C1 = some (excClassObj nm_1 qn_1 C1 N_1 bs_1 (.ref C0 :: PySem.ESX.exTail) true sn_1 sub_1 ab_1 col_1 dd_1 k0_1 k1_1 k2_1 k3_1 k5_1 "Exception.__new__"))
    (gl0 : K.lookup C0 = some (excClassObj nmg_0 qng_0 C0 Ng_0 bsg_0 PySem.ESX.exTail true sng_0 subg_0 abg_0 colg_0 ddg_0 k0g_0 k1g_0 k2g_0 k3g_0 k5g_0 "Exception.__new__"))
    (gi0 : PySem.W.findIn K (.ref C0) "__init__" = some (some (.builtin "Exception.__init__")))
    (xsa1 : PySem.W.findIn K (.ref C1) "__setattr__" = some (some (.builtin "object.__setattr__")))
    (xga1 : PySem.W.findIn K (.ref C1) "__getattribute__" = some (some (.builtin "BaseException.__getattribute__")))
    (xgg1 : PySem.W.findIn K (.ref C1) "__getattr__" = some none)
    (xn1length : PySem.W.findIn K (.ref C1) "length" = some none)
    (xi1 : PySem.W.findIn K (.ref C1) "__init__" = some (some (.ref fI1)))
    (xt1 : PySem.W.typeIn K (.ref fI1) = some (.type "function"))
    (xk1 : PySem.W.keepIn K (.ref C1) = true)
    (xb1 : PySem.W.subIn K (.ref C1) (.type "BaseException") = some true)
    (xe1 : PySem.W.subIn K (.ref C1) (.type "Exception") = some true)
    (xy1 : PySem.W.typeIn K (.ref C1) = some (.type "type"))
    (xh1 : PySem.W.hasDictIn K C1 = true)
    (xf1 : K.lookup fI1 = some ⟨ocx_1, odx_1, .func (PySem.W.ksFn "__init__" "TooLong.__init__" (defArgs in_TooLong) (defBody in_TooLong) (defScope in_TooLong) .none .none docx_1 pmx_1 anx_1 (.ref cda1) ctx_1 cc1), oslx_1⟩)
    (xg1 : PySem.W.codeIn K (.ref cda1) "TooLong.__init__" = true)
    (xc1 : K.lookup cc1 = some ⟨clx_1, cldx_1, .cell (some (.ref C1)), cslx_1⟩)
    (xo1 : K.lookup cda1 = some ⟨cclx_1, cddx_1, .fields vsx_1, ccsx_1⟩)
    (xp1 : vsx_1[2]? = some (.str filex_1 tfx_1))
    (xq1 : ((P.main.file : Str) == filex_1) = true)
    (hd0 : PySem.W.hasDictIn K C0 = true)
    (ht0 : PySem.W.typeIn K (.ref C0) = some (.type "type"))
    (hb0 : PySem.W.subIn K (.ref C0) (.type "BaseException") = some true)
    (es1_0 : PySem.W.subIn K (.ref C1) (.ref C0) = some true)
    (hd1 : PySem.W.hasDictIn K C1 = true)
    (ht1 : PySem.W.typeIn K (.ref C1) = some (.type "type"))
    (hb1 : PySem.W.subIn K (.ref C1) (.type "BaseException") = some true)
    (es1_1 : PySem.W.subIn K (.ref C1) (.ref C1) = some true)
    (dn : PySem.W.specialIn K (.builtin "object.__class__") "__get__" = some (some (.builtin "getset_descriptor.__get__")))
    (dt : PySem.W.takesIn K (.builtin "object.__class__") = some true)
    (dc1 : PySem.W.findIn K (.ref C1) "__class__" = some (some (.builtin "object.__class__")))
    (dm1 : PySem.W.mroIn K C1 (.type "object") = some true)
    (a0 : PySem.W.nsIn K mainGlobals "listed" = some (some (.ref f0)))
    (l0 : K.lookup f0 = some ⟨oc0, od0, .func (PySem.W.fnOf "listed" "listed" (defArgs st_listed) (defBody st_listed) (defScope st_listed) .none kV0 dc0v pm0 an0 cd0 ct0), sl0⟩)
    (c0 : PySem.W.codeIn K cd0 "listed" = true)
    (k0 : PySem.W.keepIn K (.ref f0) = true)
    (a1 : PySem.W.nsIn K mainGlobals "length_in" = some (some (.ref f1)))
    (l1 : K.lookup f1 = some ⟨oc1, od1, .func (PySem.W.fnOf "length_in" "length_in" (defArgs st_length_in) (defBody st_length_in) (defScope st_length_in) .none kV1 dc1v pm1 an1 cd1 ct1), sl1⟩)
    (c1 : PySem.W.codeIn K cd1 "length_in" = true)
    (k1 : PySem.W.keepIn K (.ref f1) = true)
    (a2 : PySem.W.nsIn K mainGlobals "_law_hand" = some (some (.ref f2)))
    (l2 : K.lookup f2 = some ⟨oc2, od2, .func (PySem.W.fnOf "_law_hand" "_law_hand" (defArgs st__law_hand) (defBody st__law_hand) (defScope st__law_hand) .none kV2 dc2v pm2 an2 cd2 ct2), sl2⟩)
    (c2 : PySem.W.codeIn K cd2 "_law_hand" = true)
    (k2 : PySem.W.keepIn K (.ref f2) = true)
    (a3 : PySem.W.nsIn K mainGlobals "_law_draw" = some (some (.ref f3)))
    (l3 : K.lookup f3 = some ⟨oc3, od3, .func (PySem.W.fnOf "_law_draw" "_law_draw" (defArgs st__law_draw) (defBody st__law_draw) (defScope st__law_draw) .none kV3 dc3v pm3 an3 cd3 ct3), sl3⟩)
    (c3 : PySem.W.codeIn K cd3 "_law_draw" = true)
    (k3 : PySem.W.keepIn K (.ref f3) = true)
    (a4 : PySem.W.nsIn K mainGlobals "_law_between" = some (some (.ref f4)))
    (l4 : K.lookup f4 = some ⟨oc4, od4, .func (PySem.W.fnOf "_law_between" "_law_between" (defArgs st__law_between) (defBody st__law_between) (defScope st__law_between) .none kV4 dc4v pm4 an4 cd4 ct4), sl4⟩)
    (c4 : PySem.W.codeIn K cd4 "_law_between" = true)
    (k4 : PySem.W.keepIn K (.ref f4) = true)
    (a5 : PySem.W.nsIn K mainGlobals "_law_size" = some (some (.ref f5)))
    (l5 : K.lookup f5 = some ⟨oc5, od5, .func (PySem.W.fnOf "_law_size" "_law_size" (defArgs st__law_size) (defBody st__law_size) (defScope st__law_size) .none kV5 dc5v pm5 an5 cd5 ct5), sl5⟩)
    (c5 : PySem.W.codeIn K cd5 "_law_size" = true)
    (k5 : PySem.W.keepIn K (.ref f5) = true)
    (a6 : PySem.W.nsIn K mainGlobals "parts_of" = some (some (.ref f6)))
    (l6 : K.lookup f6 = some ⟨oc6, od6, .func (PySem.W.fnOf "parts_of" "parts_of" (defArgs st_parts_of) (defBody st_parts_of) (defScope st_parts_of) .none kV6 dc6v pm6 an6 cd6 ct6), sl6⟩)
    (c6 : PySem.W.codeIn K cd6 "parts_of" = true)
    (k6 : PySem.W.keepIn K (.ref f6) = true)
    (a7 : PySem.W.nsIn K mainGlobals "_law_pick" = some (some (.ref f7)))
    (l7 : K.lookup f7 = some ⟨oc7, od7, .func (PySem.W.fnOf "_law_pick" "_law_pick" (defArgs st__law_pick) (defBody st__law_pick) (defScope st__law_pick) .none kV7 dc7v pm7 an7 cd7 ct7), sl7⟩)
    (c7 : PySem.W.codeIn K cd7 "_law_pick" = true)
    (k7 : PySem.W.keepIn K (.ref f7) = true)
    (a8 : PySem.W.nsIn K mainGlobals "_law_written" = some (some (.ref f8)))
    (l8 : K.lookup f8 = some ⟨oc8, od8, .func (PySem.W.fnOf "_law_written" "_law_written" (defArgs st__law_written) (defBody st__law_written) (defScope st__law_written) .none kV8 dc8v pm8 an8 cd8 ct8), sl8⟩)
    (c8 : PySem.W.codeIn K cd8 "_law_written" = true)
    (k8 : PySem.W.keepIn K (.ref f8) = true)
    (a9 : PySem.W.nsIn K mainGlobals "length_of" = some (some (.ref f9)))
    (l9 : K.lookup f9 = some ⟨oc9, od9, .func (PySem.W.fnOf "length_of" "length_of" (defArgs st_length_of) (defBody st_length_of) (defScope st_length_of) .none kV9 dc9v pm9 an9 cd9 ct9), sl9⟩)
    (c9 : PySem.W.codeIn K cd9 "length_of" = true)
    (k9 : PySem.W.keepIn K (.ref f9) = true)
    (a10 : PySem.W.nsIn K mainGlobals "_law_step" = some (some (.ref f10)))
    (l10 : K.lookup f10 = some ⟨oc10, od10, .func (PySem.W.fnOf "_law_step" "_law_step" (defArgs st__law_step) (defBody st__law_step) (defScope st__law_step) .none kV10 dc10v pm10 an10 cd10 ct10), sl10⟩)
    (c10 : PySem.W.codeIn K cd10 "_law_step" = true)
    (k10 : PySem.W.keepIn K (.ref f10) = true)
    (a11 : PySem.W.nsIn K mainGlobals "tokens_of" = some (some (.ref f11)))
    (l11 : K.lookup f11 = some ⟨oc11, od11, .func (PySem.W.fnOf "tokens_of" "tokens_of" (defArgs st_tokens_of) (defBody st_tokens_of) (defScope st_tokens_of) .none kV11 dc11v pm11 an11 cd11 ct11), sl11⟩)
    (c11 : PySem.W.codeIn K cd11 "tokens_of" = true)
    (k11 : PySem.W.keepIn K (.ref f11) = true)
    (a12 : PySem.W.nsIn K mainGlobals "_law_rows" = some (some (.ref f12)))
    (l12 : K.lookup f12 = some ⟨oc12, od12, .func (PySem.W.fnOf "_law_rows" "_law_rows" (defArgs st__law_rows) (defBody st__law_rows) (defScope st__law_rows) .none kV12 dc12v pm12 an12 cd12 ct12), sl12⟩)
    (c12 : PySem.W.codeIn K cd12 "_law_rows" = true)
    (k12 : PySem.W.keepIn K (.ref f12) = true)
    (a13 : PySem.W.nsIn K mainGlobals "_law_heard" = some (some (.ref f13)))
    (l13 : K.lookup f13 = some ⟨oc13, od13, .func (PySem.W.fnOf "_law_heard" "_law_heard" (defArgs st__law_heard) (defBody st__law_heard) (defScope st__law_heard) .none kV13 dc13v pm13 an13 cd13 ct13), sl13⟩)
    (c13 : PySem.W.codeIn K cd13 "_law_heard" = true)
    (k13 : PySem.W.keepIn K (.ref f13) = true)
    (a14 : PySem.W.nsIn K mainGlobals "_law_right" = some (some (.ref f14)))
    (l14 : K.lookup f14 = some ⟨oc14, od14, .func (PySem.W.fnOf "_law_right" "_law_right" (defArgs st__law_right) (defBody st__law_right) (defScope st__law_right) .none kV14 dc14v pm14 an14 cd14 ct14), sl14⟩)
    (c14 : PySem.W.codeIn K cd14 "_law_right" = true)
    (k14 : PySem.W.keepIn K (.ref f14) = true)
    (a15 : PySem.W.nsIn K mainGlobals "law" = some (some (.ref f15)))
    (l15 : K.lookup f15 = some ⟨oc15, od15, .func (PySem.W.fnOf "law" "law" (defArgs st_law) (defBody st_law) (defScope st_law) .none kV15 dc15v pm15 an15 cd15 ct15), sl15⟩)
    (c15 : PySem.W.codeIn K cd15 "law" = true)
    (k15 : PySem.W.keepIn K (.ref f15) = true)
    (kv11 : kV11 = .ref D11)
    (kn11most : PySem.W.nsIn K D11 "most" = some (some (.int 2000 tk11most)))
    : Tops P K mg := by
  have u1 : ∀ C, clsAt K "TooLong" C → C = C1 := fun C hC => by have := hC.symm.trans xa1; injection this with t; injection t with t; injection t
  have X1 : XOk P K mg "TooLong" ["length"] := ⟨C1, C0, fI1, cda1, cc1, _, _, _, _, { gC := PySem.W.mg_of X G xa1, cls := ⟨_, _, _, _, _, _, _, _, _, _, _, _, _, _, xl1⟩, sa := xsa1, ga := xga1, gg := xgg1, noN := fun f hf => by rw [List.mem_singleton.mp hf]; exact xn1length, iC := xi1, tC := xt1, kC := xk1, exC := xb1, exE := xe1, tyC := xy1, hdC := xh1, sup := DX.sup_of gl0 gi0, opq := opq, cell := ⟨_, _, _, xc1⟩, code := ⟨_, _, _, _, _, _, xo1, xp1, xq1⟩, top := xtop, noS := PySem.W.mg_none_of X G zsuper, fn := ⟨_, _, _, _, _, _, _, xf1, xg1⟩ }, xf_TooLong, xa1⟩
  have W11 : ∀ f fd, mg "tokens_of" = some (.ref f) → Fun K "tokens_of" "tokens_of" st_tokens_of f fd → Dfl K fd P_tokens_of [.int 2000] := fun f fd hm Fu => by
    have ef := hm.symm.trans (PySem.W.mg_of X G a11)
    cases ef
    obtain ⟨oc, od, kV, doc, pm, an, cdv, ct, osl, rfl, lk, hcd⟩ := Fu.ex
    have e2 := lk.symm.trans l11
    injection e2 with e2
    injection e2 with _ _ e2 _
    injection e2 with e2
    have e3 : kV = kV11 := congrArg PySem.FuncData.kwdefaults e2
    refine dfl_kw (kws := [("most", V.int 2000)]) ⟨⟨oc, od, .none, kV, doc, pm, an, cdv, ct, osl, rfl, lk, hcd, .inl ⟨rfl, rfl⟩, .inr ⟨D11, e3.trans kv11, fun q hq => ?_⟩⟩, Fu.kp⟩ 2 (by simp) rfl (fun D doc pm an cdv ct us ks h1 h2 => ?_) (fun ι H => by simp only [List.map_cons, List.map_nil, RDs, RD]; exact ⟨_, _, rfl, rfl, rfl⟩)
    · rw [List.mem_singleton.mp hq]; exact ⟨_, kn11most, _, rfl⟩
    · match us, ks, h1, h2 with
      | [_, _], [_], _, _ => exact ⟨_, _, _, _, _, _, rfl, rfl, rfl⟩
  exact ⟨(fun o e => nomatch yS.symm.trans e), PySem.W.mg_none_of X G z_enumerate, PySem.W.mg_none_of X G z_int, PySem.W.mg_none_of X G z_isinstance, PySem.W.mg_none_of X G z_len, PySem.W.mg_none_of X G z_list, PySem.W.mg_none_of X G z_max, PySem.W.mg_none_of X G z_range, PySem.W.mg_none_of X G z_repr, PySem.W.mg_none_of X G z_str, PySem.W.mg_none_of X G z_sum, PySem.W.mg_none_of X G z_tuple, ⟨_, PySem.W.mg_of X G g_CALL⟩, ⟨_, PySem.W.mg_of X G g_METHOD⟩, ⟨_, PySem.W.mg_of X G g_TOKEN⟩, X1, ⟨_, PySem.W.mg_of X G xa1, fun z hz => by rw [List.mem_singleton.mp hz]; exact fun C hC => by rw [u1 C hC]; exact PySem.W.exm_ref hb1 hd1 ht1 es1_1, fun z hz => nomatch hz⟩, ⟨_, PySem.W.mg_of X G xa0, fun z hz => by rw [List.mem_singleton.mp hz]; exact fun C hC => by rw [u1 C hC]; exact ⟨⟨xga1, xgg1, xb1, xh1, dc1, dn, dt, dm1⟩, kit_yes hd0 ht0 es1_0⟩, fun z hz => nomatch hz⟩, (fun z hz => by rw [List.mem_singleton.mp hz]; exact fun C hC => by rw [u1 C hC]; exact ⟨⟨xga1, xgg1, xb1, xh1⟩, xn1length⟩), ⟨_, _, PySem.W.mg_of X G a0, fun_mk (st := st_listed) l0 c0 k0⟩, ⟨_, _, PySem.W.mg_of X G a1, fun_mk (st := st_length_in) l1 c1 k1⟩, ⟨_, _, PySem.W.mg_of X G a2, fun_mk (st := st__law_hand) l2 c2 k2⟩, ⟨_, _, PySem.W.mg_of X G a3, fun_mk (st := st__law_draw) l3 c3 k3⟩, ⟨_, _, PySem.W.mg_of X G a4, fun_mk (st := st__law_between) l4 c4 k4⟩, ⟨_, _, PySem.W.mg_of X G a5, fun_mk (st := st__law_size) l5 c5 k5⟩, ⟨_, _, PySem.W.mg_of X G a6, fun_mk (st := st_parts_of) l6 c6 k6⟩, ⟨_, _, PySem.W.mg_of X G a7, fun_mk (st := st__law_pick) l7 c7 k7⟩, ⟨_, _, PySem.W.mg_of X G a8, fun_mk (st := st__law_written) l8 c8 k8⟩, ⟨_, _, PySem.W.mg_of X G a9, fun_mk (st := st_length_of) l9 c9 k9⟩, ⟨_, _, PySem.W.mg_of X G a10, fun_mk (st := st__law_step) l10 c10 k10⟩, ⟨_, _, PySem.W.mg_of X G a11, fun_mk (st := st_tokens_of) l11 c11 k11⟩, ⟨_, _, PySem.W.mg_of X G a12, fun_mk (st := st__law_rows) l12 c12 k12⟩, ⟨_, _, PySem.W.mg_of X G a13, fun_mk (st := st__law_heard) l13 c13 k13⟩, ⟨_, _, PySem.W.mg_of X G a14, fun_mk (st := st__law_right) l14 c14 k14⟩, ⟨_, _, PySem.W.mg_of X G a15, fun_mk (st := st_law) l15 c15 k15⟩, W11⟩
theorem law_F {P : Program} {K : PySem.W.Frag} {h : Heap} {mg : Str → Option Value} {fa : Addr} (T : Tops P K mg) (hfa : mg "law" = some (.ref fa))
    (ans : ∀ ns : List Int, ns.length ≤ 63 → ∃ S', f_law [.ref 0] [.fz (ns.map D.int)] = .ok (.bl true) S') {w : World} :
    ∃ (fd : FuncData) (G : FM), (∀ (s : Shared) (u : Value), BindsTo s fd ⟨[u], []⟩ [("script", u)]) ∧
        (∀ ns : List Int, ns.length ≤ 63 → ∃ S', G [.ref 0] [.fz (ns.map D.int)] = .ok (.bl true) S') ∧
        ∀ base : Heap, K.In base → base.Ns mainGlobals mg → FnG P w K mg base 7 fa fd ["script"] (spG K 1 G) := by
  obtain ⟨f, fd, hm, F⟩ := T.d_law
  have e := hfa.symm.trans hm
  cases e
  refine ⟨fd, f_law, ?_, ans, fun base _ _ => ?_⟩
  · obtain ⟨oc, od, kV, doc, pm, an, cdv, ct, osl, rfl, _⟩ := F.ex
    exact fun s u => .of_eq rfl
  · obtain ⟨f', fd', Fn, hm', F'⟩ := (all_law (P := P) (w := w) (base := base) T).ex
    have e := hm.symm.trans hm'
    cases e
    obtain ⟨_, _, _, _, _, _, _, _, _, rfl, lk, _⟩ := F.ex
    obtain ⟨_, _, _, _, _, _, _, _, _, rfl, lk', _⟩ := F'.ex
    have e := lk.symm.trans lk'
    cases e
    exact Fn
/-! on values -/
def v_listed : VSM := vSeq (vSet true 1 (vLst (vNil)))
    (vSeq (vFor (viAny (vVar 0)) (.nm 2) (vExt 1 (vLst (vCons (vC (.str ",")) (vCons (vVar 2) (vNil))))))
    (vRet (vSl (vPk 1) (voSome (vC (.int 1))) (voNone))))
def w_listed : VSM := wSeq (wSet true 1 (wLst (wNil)))
    (wSeq (wFor (wiAny (vVar 0)) (.nm 2) (wExt 1 (wLst (wCons (wC (.str ",")) (wCons (vVar 2) (wNil))))))
    (wRet (wSl (vPk 1) (woSome (wC (.int 1))) (woNone))))
theorem vw_listed : v_listed = w_listed := rfl
def V_listed : VF := vRun 3 v_listed
theorem j_listed : JS false m_listed v_listed := s_seq (s_set (f1 := true) 1 (f_lst (a_nil)))
    (s_seq (s_for (i_any (j_var 0)) (s_ext 1 (JF.e (f_lst (a_cons (JF.e ((f_str _))) (a_cons (j_var 2) (a_nil)))))))
    (s_ret (JF.e (f_sl (p_var 1) (o_some (JF.p ((f_int _)))) (o_none)))))
theorem J_listed : JFn f_listed V_listed := j_run 3 j_listed
def v_length_in : VSM := vRet (vCB sumV (vCons (vLc (viAny (vVar 0)) (.nm 2) (vtTrue) (vIf (vTru (vCB isiV (vCons (vPk 2) (vCons (vC (.raw (.ty "str"))) (vNil))))) (vC (.int 1)) (vBin ixV (vPk 1) (vPk 2))) [2]) (vNil)))
def w_length_in : VSM := wRet (wCB sumV (wCons (wLc (wiAny (vVar 0)) (.nm 2) (wtTrue) (wIf (wTru (wCB isiV (wCons (vPk 2) (wCons (wC (.raw (.ty "str"))) (wNil))))) (wC (.int 1)) (wBin ixV (vPk 1) (vPk 2))) [2]) (wNil)))
theorem vw_length_in : v_length_in = w_length_in := rfl
def V_length_in : VF := vRun 3 v_length_in
theorem j_length_in : JS false m_length_in v_length_in := s_ret (JF.e (f_CB b_sum (ap_cons (JF.p (f_lc (i_any (j_var 0)) (t_true) (j_if (t_tru (JF.p (f_CB b_isi (ap_cons (p_var 2) (ap_cons (JF.p ((f_raw _))) (ap_nil)))))) (JF.e ((f_int _))) (j_bin op_ixV (p_var 1) (p_var 2))))) (ap_nil))))
theorem J_length_in : JFn f_length_in V_length_in := j_run 3 j_length_in
theorem J__law_draw : JFf f__law_draw vDraw := j_draw (a1 := 70067) (a2 := 2147483549) (a3 := 40692) (a4 := 2147483399) (a5 := 60091) (a6 := 5) (a7 := 2147483563) (a8 := 39373) (a9 := 2147483549) (by decide)
def v__law_between : VSM := vSeq (vSet false 1 (vLst (vNil)))
    (vSeq (vFor (viEn (vCons (vVar 0) (vNil))) (.tp [.nm 2, .nm 3]) (vSet false 1 (vBin addV (vBin addV (vPk 1) (vBin mulV (vLst (vCons (vC (.str ",")) (vNil))) (vCB intOfV (vCons (vBin gtV (vPk 2) (vC (.int 0))) (vNil))))) (vPk 3))))
    (vRetV false 1))
def w__law_between : VSM := wSeq (wSet false 1 (wLst (wNil)))
    (wSeq (wFor (wiEn (wCons (vVar 0) (wNil))) (.tp [.nm 2, .nm 3]) (wSet false 1 (wBin addV (wBin addV (vPk 1) (wBin mulV (wLst (wCons (wC (.str ",")) (wNil))) (wCB intOfV (wCons (wBin gtV (vPk 2) (wC (.int 0))) (wNil))))) (vPk 3))))
    (vRetV false 1))
theorem vw__law_between : v__law_between = w__law_between := rfl
def V__law_between : VF := vRun 4 v__law_between
theorem j__law_between : JS false m__law_between v__law_between := s_seq (s_set (f1 := false) 1 (JF.e (f_lst (a_nil))))
    (s_seq (s_for (i_en (a_cons (j_var 0) (a_nil))) (s_set (f1 := false) 1 (JF.e (f_bin op_addV (JF.p (f_bin op_addV (p_var 1) (JF.p (f_bin op_mulV (JF.p (f_lst (a_cons (JF.e ((f_str _))) (a_nil)))) (JF.p (f_CB b_int (ap_cons (JF.p (f_bin op_gtV (p_var 2) (JF.p ((f_int _))))) (ap_nil)))))))) (p_var 3)))))
    (s_retV 1))
theorem J__law_between : JFn f__law_between V__law_between := j_run 4 j__law_between
def v__law_size : VSM := vSeq (vIfS (vTest (vBin eqV (vBin ixV (vPk 0) (vC (.int 0))) (vC (.str "token")))) (vRet (vC (.int 1))) (vNext))
    (vSeq (vSet false 2 (vLc (viAny (vBin ixV (vPk 0) (vC (.int 2)))) (.nm 3) (vtTrue) (vBin ixV (vPk 1) (vPk 3)) [3]))
    (vSeq (vIfS (vTest (vBin eqV (vBin ixV (vPk 0) (vC (.int 0))) (vC (.str "operator")))) (vRet (vBin addV (vCB sumV (vCons (vPk 2) (vNil))) (vC (.int 3)))) (vNext))
    (vRet (vBin addV (vCB sumV (vCons (vPk 2) (vNil))) (vIf (vTest (vBin eqV (vBin ixV (vPk 0) (vC (.int 0))) (vC (.str "call")))) (vBin addV (vC (.int 2)) (vCB maxV (vCons (vC (.int 1)) (vCons (vCB lenV (vCons (vPk 2) (vNil))) (vNil))))) (vBin addV (vC (.int 3)) (vCB maxV (vCons (vC (.int 1)) (vCons (vBin subV (vCB lenV (vCons (vPk 2) (vNil))) (vC (.int 1))) (vNil))))))))))
def w__law_size : VSM := wSeq (wIfS (wTest (wBin eqV (wBin ixV (vPk 0) (wC (.int 0))) (wC (.str "token")))) (wRet (wC (.int 1))) (wNext))
    (wSeq (wSet false 2 (wLc (wiAny (wBin ixV (vPk 0) (wC (.int 2)))) (.nm 3) (wtTrue) (wBin ixV (vPk 1) (vPk 3)) [3]))
    (wSeq (wIfS (wTest (wBin eqV (wBin ixV (vPk 0) (wC (.int 0))) (wC (.str "operator")))) (wRet (wBin addV (wCB sumV (wCons (vPk 2) (wNil))) (wC (.int 3)))) (wNext))
    (wRet (wBin addV (wCB sumV (wCons (vPk 2) (wNil))) (wIf (wTest (wBin eqV (wBin ixV (vPk 0) (wC (.int 0))) (wC (.str "call")))) (wBin addV (wC (.int 2)) (wCB maxV (wCons (wC (.int 1)) (wCons (wCB lenV (wCons (vPk 2) (wNil))) (wNil))))) (wBin addV (wC (.int 3)) (wCB maxV (wCons (wC (.int 1)) (wCons (wBin subV (wCB lenV (wCons (vPk 2) (wNil))) (wC (.int 1))) (wNil))))))))))
theorem vw__law_size : v__law_size = w__law_size := rfl
def V__law_size : VF := vRun 4 v__law_size
theorem j__law_size : JS false m__law_size v__law_size := s_seq (s_if (t_test (JF.p (f_bin op_eqV (JE.p (j_bin op_ixV (p_var 0) (JF.p ((f_int _))))) (JF.p ((f_str _)))))) (s_ret (JF.e ((f_int _)))) (s_next))
    (s_seq (s_set (f1 := false) 2 (JF.e (f_lc (i_any (j_bin op_ixV (p_var 0) (JF.p ((f_int _))))) (t_true) (j_bin op_ixV (p_var 1) (p_var 3)))))
    (s_seq (s_if (t_test (JF.p (f_bin op_eqV (JE.p (j_bin op_ixV (p_var 0) (JF.p ((f_int _))))) (JF.p ((f_str _)))))) (s_ret (JF.e (f_bin op_addV (JF.p (f_CB b_sum (ap_cons (p_var 2) (ap_nil)))) (JF.p ((f_int _)))))) (s_next))
    (s_ret (JF.e (f_bin op_addV (JF.p (f_CB b_sum (ap_cons (p_var 2) (ap_nil)))) (JF.p (f_if (t_test (JF.p (f_bin op_eqV (JE.p (j_bin op_ixV (p_var 0) (JF.p ((f_int _))))) (JF.p ((f_str _)))))) (f_bin op_addV (JF.p ((f_int _))) (JF.p (f_CB b_max (ap_cons (JF.p ((f_int _))) (ap_cons (JF.p (f_CB b_len (ap_cons (p_var 2) (ap_nil)))) (ap_nil)))))) (f_bin op_addV (JF.p ((f_int _))) (JF.p (f_CB b_max (ap_cons (JF.p ((f_int _))) (ap_cons (JF.p (f_bin op_subV (JF.p (f_CB b_len (ap_cons (p_var 2) (ap_nil)))) (JF.p ((f_int _))))) (ap_nil)))))))))))))
theorem J__law_size : JFn f__law_size V__law_size := j_run 4 j__law_size
def v_parts_of : VSM := vSeq (vIfS (vTest (vBin eqV (vBin ixV (vPk 0) (vC (.int 0))) (vC (.str "token")))) (vRet (vLst (vCons (vBin ixV (vPk 0) (vC (.int 1))) (vNil)))) (vNext))
    (vSeq (vAsg (.tp [.nm 1, .nm 2, .nm 3]) (vVar 0))
    (vSeq (vIfS (vTest (vBin eqV (vPk 1) (vC (.str "call")))) (vRet (vLst (vCons (vVar 2) (vCons (vC (.str "(")) (vStar (vCall 1 V_listed (vCons (vVar 3) (vNil))) (vCons (vC (.str ")")) (vNil))))))) (vNext))
    (vSeq (vIfS (vTest (vBin eqV (vPk 1) (vC (.str "method")))) (vRet (vLst (vCons (vBin ixV (vPk 3) (vC (.int 0))) (vCons (vC (.str ".")) (vCons (vVar 2) (vCons (vC (.str "(")) (vStar (vCall 1 V_listed (vCons (vSl (vPk 3) (voSome (vC (.int 1))) (voNone)) (vNil))) (vCons (vC (.str ")")) (vNil))))))))) (vNext))
    (vRet (vLst (vCons (vC (.str "(")) (vCons (vBin ixV (vPk 3) (vC (.int 0))) (vCons (vVar 2) (vCons (vBin ixV (vPk 3) (vC (.int 1))) (vCons (vC (.str ")")) (vNil)))))))))))
def w_parts_of : VSM := wSeq (wIfS (wTest (wBin eqV (wBin ixV (vPk 0) (wC (.int 0))) (wC (.str "token")))) (wRet (wLst (wCons (wBin ixV (vPk 0) (wC (.int 1))) (wNil)))) (wNext))
    (wSeq (wAsg (.tp [.nm 1, .nm 2, .nm 3]) (vVar 0))
    (wSeq (wIfS (wTest (wBin eqV (vPk 1) (wC (.str "call")))) (wRet (wLst (wCons (vVar 2) (wCons (wC (.str "(")) (wStar (wCall 1 V_listed (wCons (vVar 3) (wNil))) (wCons (wC (.str ")")) (wNil))))))) (wNext))
    (wSeq (wIfS (wTest (wBin eqV (vPk 1) (wC (.str "method")))) (wRet (wLst (wCons (wBin ixV (vPk 3) (wC (.int 0))) (wCons (wC (.str ".")) (wCons (vVar 2) (wCons (wC (.str "(")) (wStar (wCall 1 V_listed (wCons (wSl (vPk 3) (woSome (wC (.int 1))) (woNone)) (wNil))) (wCons (wC (.str ")")) (wNil))))))))) (wNext))
    (wRet (wLst (wCons (wC (.str "(")) (wCons (wBin ixV (vPk 3) (wC (.int 0))) (wCons (vVar 2) (wCons (wBin ixV (vPk 3) (wC (.int 1))) (wCons (wC (.str ")")) (wNil)))))))))))
theorem vw_parts_of : v_parts_of = w_parts_of := rfl
def V_parts_of : VF := vRun 4 v_parts_of
theorem j_parts_of : JS false m_parts_of v_parts_of := s_seq (s_if (t_test (JF.p (f_bin op_eqV (JE.p (j_bin op_ixV (p_var 0) (JF.p ((f_int _))))) (JF.p ((f_str _)))))) (s_ret (JF.e (f_lst (a_cons (j_bin op_ixV (p_var 0) (JF.p ((f_int _)))) (a_nil))))) (s_next))
    (s_seq (s_asg (j_var 0))
    (s_seq (s_if (t_test (JF.p (f_bin op_eqV (p_var 1) (JF.p ((f_str _)))))) (s_ret (JF.e (f_lst (a_cons (j_var 2) (a_cons (JF.e ((f_str _))) (a_star (JE.p (j_call J_listed (a_cons (j_var 3) (a_nil)))) (a_cons (JF.e ((f_str _))) (a_nil)))))))) (s_next))
    (s_seq (s_if (t_test (JF.p (f_bin op_eqV (p_var 1) (JF.p ((f_str _)))))) (s_ret (JF.e (f_lst (a_cons (j_bin op_ixV (p_var 3) (JF.p ((f_int _)))) (a_cons (JF.e ((f_str _))) (a_cons (j_var 2) (a_cons (JF.e ((f_str _))) (a_star (JE.p (j_call J_listed (a_cons (JF.e (f_sl (p_var 3) (o_some (JF.p ((f_int _)))) (o_none))) (a_nil)))) (a_cons (JF.e ((f_str _))) (a_nil)))))))))) (s_next))
    (s_ret (JF.e (f_lst (a_cons (JF.e ((f_str _))) (a_cons (j_bin op_ixV (p_var 3) (JF.p ((f_int _)))) (a_cons (j_var 2) (a_cons (j_bin op_ixV (p_var 3) (JF.p ((f_int _)))) (a_cons (JF.e ((f_str _))) (a_nil))))))))))))
theorem J_parts_of : JFn f_parts_of V_parts_of := j_run 4 j_parts_of
def v__law_pick : VSM := vRet (vBin ixV (vPk 1) (vCall 2 vDraw (vCons (vVar 0) (vCons (vCB lenV (vCons (vPk 1) (vNil))) (vNil)))))
def w__law_pick : VSM := wRet (wBin ixV (vPk 1) (wCall 2 vDraw (wCons (vVar 0) (wCons (wCB lenV (wCons (vPk 1) (wNil))) (wNil)))))
theorem vw__law_pick : v__law_pick = w__law_pick := rfl
def V__law_pick : VF := vRun 2 v__law_pick
theorem j__law_pick : JS false m__law_pick v__law_pick := s_ret (j_bin op_ixV (p_var 1) (JF.p (f_call J__law_draw (a_cons (j_var 0) (a_cons (JF.e (f_CB b_len (ap_cons (p_var 1) (ap_nil)))) (a_nil))))))
theorem J__law_pick : JFn f__law_pick V__law_pick := j_run 2 j__law_pick
def v__law_written : VSM := vSeq (vSet true 1 (vLst (vNil)))
    (vSeq (vFor (viAny (vVar 0)) (.nm 2) (vSeq (vIfS (vTest (vBin eqV (vBin ixV (vPk 2) (vC (.int 0))) (vC (.str "token")))) (vSeq (vApp 1 (vLst (vCons (vBin ixV (vPk 2) (vC (.int 1))) (vNil))))
    (vCont)) (vNext))
    (vSeq (vSet false 3 (vLc (viAny (vBin ixV (vPk 2) (vC (.int 2)))) (.nm 4) (vtTrue) (vBin ixV (vPk 1) (vPk 4)) [4]))
    (vIfS (vTest (vBin eqV (vBin ixV (vPk 2) (vC (.int 0))) (vC (.str "operator")))) (vApp 1 (vBin addV (vBin addV (vBin addV (vBin addV (vLst (vCons (vC (.str "(")) (vNil))) (vBin ixV (vPk 3) (vC (.int 0)))) (vLst (vCons (vBin ixV (vPk 2) (vC (.int 1))) (vNil)))) (vBin ixV (vPk 3) (vC (.int 1)))) (vLst (vCons (vC (.str ")")) (vNil))))) (vIfS (vTest (vBin eqV (vBin ixV (vPk 2) (vC (.int 0))) (vC (.str "call")))) (vApp 1 (vBin addV (vBin addV (vLst (vCons (vBin ixV (vPk 2) (vC (.int 1))) (vCons (vC (.str "(")) (vNil)))) (vCall 1 V__law_between (vCons (vVar 3) (vNil)))) (vLst (vCons (vC (.str ")")) (vNil))))) (vApp 1 (vBin addV (vBin addV (vBin addV (vBin ixV (vPk 3) (vC (.int 0))) (vLst (vCons (vC (.str ".")) (vCons (vBin ixV (vPk 2) (vC (.int 1))) (vCons (vC (.str "(")) (vNil)))))) (vCall 1 V__law_between (vCons (vSl (vPk 3) (voSome (vC (.int 1))) (voNone)) (vNil)))) (vLst (vCons (vC (.str ")")) (vNil))))))))))
    (vRetV false 1))
def w__law_written : VSM := wSeq (wSet true 1 (wLst (wNil)))
    (wSeq (wFor (wiAny (vVar 0)) (.nm 2) (wSeq (wIfS (wTest (wBin eqV (wBin ixV (vPk 2) (wC (.int 0))) (wC (.str "token")))) (wSeq (wApp 1 (wLst (wCons (wBin ixV (vPk 2) (wC (.int 1))) (wNil))))
    (wCont)) (wNext))
    (wSeq (wSet false 3 (wLc (wiAny (wBin ixV (vPk 2) (wC (.int 2)))) (.nm 4) (wtTrue) (wBin ixV (vPk 1) (vPk 4)) [4]))
    (wIfS (wTest (wBin eqV (wBin ixV (vPk 2) (wC (.int 0))) (wC (.str "operator")))) (wApp 1 (wBin addV (wBin addV (wBin addV (wBin addV (wLst (wCons (wC (.str "(")) (wNil))) (wBin ixV (vPk 3) (wC (.int 0)))) (wLst (wCons (wBin ixV (vPk 2) (wC (.int 1))) (wNil)))) (wBin ixV (vPk 3) (wC (.int 1)))) (wLst (wCons (wC (.str ")")) (wNil))))) (wIfS (wTest (wBin eqV (wBin ixV (vPk 2) (wC (.int 0))) (wC (.str "call")))) (wApp 1 (wBin addV (wBin addV (wLst (wCons (wBin ixV (vPk 2) (wC (.int 1))) (wCons (wC (.str "(")) (wNil)))) (wCall 1 V__law_between (wCons (vVar 3) (wNil)))) (wLst (wCons (wC (.str ")")) (wNil))))) (wApp 1 (wBin addV (wBin addV (wBin addV (wBin ixV (vPk 3) (wC (.int 0))) (wLst (wCons (wC (.str ".")) (wCons (wBin ixV (vPk 2) (wC (.int 1))) (wCons (wC (.str "(")) (wNil)))))) (wCall 1 V__law_between (wCons (wSl (vPk 3) (woSome (wC (.int 1))) (woNone)) (wNil)))) (wLst (wCons (wC (.str ")")) (wNil))))))))))
    (vRetV false 1))
theorem vw__law_written : v__law_written = w__law_written := rfl
def V__law_written : VF := vRun 5 v__law_written
theorem j__law_written : JS false m__law_written v__law_written := s_seq (s_set (f1 := true) 1 (f_lst (a_nil)))
    (s_seq (s_for (i_any (j_var 0)) (s_seq (s_if (t_test (JF.p (f_bin op_eqV (JE.p (j_bin op_ixV (p_var 2) (JF.p ((f_int _))))) (JF.p ((f_str _)))))) (s_seq (s_app 1 (JF.e (f_lst (a_cons (j_bin op_ixV (p_var 2) (JF.p ((f_int _)))) (a_nil)))))
    (s_cont)) (s_next))
    (s_seq (s_set (f1 := false) 3 (JF.e (f_lc (i_any (j_bin op_ixV (p_var 2) (JF.p ((f_int _))))) (t_true) (j_bin op_ixV (p_var 1) (p_var 4)))))
    (s_if (t_test (JF.p (f_bin op_eqV (JE.p (j_bin op_ixV (p_var 2) (JF.p ((f_int _))))) (JF.p ((f_str _)))))) (s_app 1 (JF.e (f_bin op_addV (JF.p (f_bin op_addV (JF.p (f_bin op_addV (JF.p (f_bin op_addV (JF.p (f_lst (a_cons (JF.e ((f_str _))) (a_nil)))) (JE.p (j_bin op_ixV (p_var 3) (JF.p ((f_int _))))))) (JF.p (f_lst (a_cons (j_bin op_ixV (p_var 2) (JF.p ((f_int _)))) (a_nil)))))) (JE.p (j_bin op_ixV (p_var 3) (JF.p ((f_int _))))))) (JF.p (f_lst (a_cons (JF.e ((f_str _))) (a_nil))))))) (s_if (t_test (JF.p (f_bin op_eqV (JE.p (j_bin op_ixV (p_var 2) (JF.p ((f_int _))))) (JF.p ((f_str _)))))) (s_app 1 (JF.e (f_bin op_addV (JF.p (f_bin op_addV (JF.p (f_lst (a_cons (j_bin op_ixV (p_var 2) (JF.p ((f_int _)))) (a_cons (JF.e ((f_str _))) (a_nil))))) (JE.p (j_call J__law_between (a_cons (j_var 3) (a_nil)))))) (JF.p (f_lst (a_cons (JF.e ((f_str _))) (a_nil))))))) (s_app 1 (JF.e (f_bin op_addV (JF.p (f_bin op_addV (JF.p (f_bin op_addV (JE.p (j_bin op_ixV (p_var 3) (JF.p ((f_int _))))) (JF.p (f_lst (a_cons (JF.e ((f_str _))) (a_cons (j_bin op_ixV (p_var 2) (JF.p ((f_int _)))) (a_cons (JF.e ((f_str _))) (a_nil)))))))) (JE.p (j_call J__law_between (a_cons (JF.e (f_sl (p_var 3) (o_some (JF.p ((f_int _)))) (o_none))) (a_nil)))))) (JF.p (f_lst (a_cons (JF.e ((f_str _))) (a_nil))))))))))))
    (s_retV 1))
theorem J__law_written : JFn f__law_written V__law_written := j_run 5 j__law_written
def v_length_of : VSM := vSeq (vSet true 2 (vLst (vNil)))
    (vSeq (vFor (viAny (vVar 0)) (.nm 3) (vApp 2 (vCallB 2 V_length_in (vCons (vCall 1 V_parts_of (vCons (vVar 3) (vNil))) (vCons (vPk 2) (vNil))))))
    (vRet (vCallB 2 V_length_in (vCons (vPk 1) (vCons (vPk 2) (vNil))))))
def w_length_of : VSM := wSeq (wSet true 2 (wLst (wNil)))
    (wSeq (wFor (wiAny (vVar 0)) (.nm 3) (wApp 2 (wCallB 2 V_length_in (wCons (wCall 1 V_parts_of (wCons (vVar 3) (wNil))) (wCons (vPk 2) (wNil))))))
    (wRet (wCallB 2 V_length_in (wCons (vPk 1) (wCons (vPk 2) (wNil))))))
theorem vw_length_of : v_length_of = w_length_of := rfl
def V_length_of : VF := vRun 4 v_length_of
theorem j_length_of : JS false m_length_of v_length_of := s_seq (s_set (f1 := true) 2 (f_lst (a_nil)))
    (s_seq (s_for (i_any (j_var 0)) (s_app 2 (JF.e (f_callB J_length_in (ap_cons (JE.p (j_call J_parts_of (a_cons (j_var 3) (a_nil)))) (ap_cons (p_var 2) (ap_nil)))))))
    (s_ret (JF.e (f_callB J_length_in (ap_cons (p_var 1) (ap_cons (p_var 2) (ap_nil)))))))
theorem J_length_of : JFn f_length_of V_length_of := j_run 4 j_length_of
def v__law_step : VSM := vSeq (vSet false 2 (vCall 2 V__law_pick (vCons (vVar 0) (vCons (vLst (vCons (vC (.str "token")) (vCons (vC (.str "call")) (vCons (vC (.str "method")) (vCons (vC (.str "operator")) (vNil)))))) (vNil)))))
    (vSeq (vIfS (vtOr (vTest (vBin eqV (vPk 2) (vC (.str "token")))) (vTest (vBin eqV (vPk 1) (vC (.int 0))))) (vRet (vTup (vCons (vC (.str "token")) (vCons (vCall 2 V__law_pick (vCons (vVar 0) (vCons (vLst (vCons (vC (.str "x")) (vCons (vC (.str "0")) (vCons (vC (.str "123456789")) (vCons (vC (.str "\"\"")) (vCons (vC (.str "\"a  z\"")) (vCons (vC (.str "zzzzzzzz")) (vCons (vC (.str "letx")) (vNil))))))))) (vNil)))) (vNil))))) (vNext))
    (vSeq (vIfS (vTest (vBin eqV (vPk 2) (vC (.str "operator")))) (vSeq (vSet false 5 (vCall 2 V__law_pick (vCons (vVar 0) (vCons (vLst (vCons (vC (.str "+")) (vCons (vC (.str "-")) (vCons (vC (.str "*")) (vCons (vC (.str "/")) (vCons (vC (.str "&")) (vCons (vC (.str "|")) (vCons (vC (.str "^")) (vNil))))))))) (vNil)))))
    (vRet (vTup (vCons (vVar 2) (vCons (vVar 5) (vCons (vTup (vCons (vCall 2 vDraw (vCons (vVar 0) (vCons (vVar 1) (vNil)))) (vCons (vCall 2 vDraw (vCons (vVar 0) (vCons (vVar 1) (vNil)))) (vNil)))) (vNil))))))) (vNext))
    (vSeq (vSet false 3 (vIf (vTest (vBin eqV (vPk 2) (vC (.str "call")))) (vCall 2 V__law_pick (vCons (vVar 0) (vCons (vLst (vCons (vC (.int 0)) (vCons (vC (.int 1)) (vCons (vC (.int 2)) (vCons (vC (.int 3)) (vCons (vC (.int 4)) (vNil))))))) (vNil)))) (vCall 2 V__law_pick (vCons (vVar 0) (vCons (vLst (vCons (vC (.int 1)) (vCons (vC (.int 1)) (vCons (vC (.int 2)) (vCons (vC (.int 3)) (vCons (vC (.int 4)) (vNil))))))) (vNil))))))
    (vSeq (vSet false 4 (vCB tupleOfV (vCons (vLc (viRg1 (vCons (vVar 3) (vNil))) (.nm 6) (vtTrue) (vCall 2 V__law_pick (vCons (vVar 0) (vCons (vLst (vCons (vBin subV (vPk 1) (vC (.int 1))) (vCons (vCall 2 vDraw (vCons (vVar 0) (vCons (vVar 1) (vNil)))) (vNil)))) (vNil)))) [6]) (vNil))))
    (vRet (vTup (vCons (vVar 2) (vCons (vCall 2 V__law_pick (vCons (vVar 0) (vCons (vLst (vCons (vC (.str "f")) (vCons (vC (.str "call")) (vCons (vC (.str "token")) (vCons (vC (.str "g")) (vCons (vC (.str "method")) (vNil))))))) (vNil)))) (vCons (vVar 4) (vNil))))))))))
def w__law_step : VSM := wSeq (wSet false 2 (wCall 2 V__law_pick (wCons (vVar 0) (wCons (wLst (wCons (wC (.str "token")) (wCons (wC (.str "call")) (wCons (wC (.str "method")) (wCons (wC (.str "operator")) (wNil)))))) (wNil)))))
    (wSeq (wIfS (wtOr (wTest (wBin eqV (vPk 2) (wC (.str "token")))) (wTest (wBin eqV (vPk 1) (wC (.int 0))))) (wRet (wTup (wCons (wC (.str "token")) (wCons (wCall 2 V__law_pick (wCons (vVar 0) (wCons (wLst (wCons (wC (.str "x")) (wCons (wC (.str "0")) (wCons (wC (.str "123456789")) (wCons (wC (.str "\"\"")) (wCons (wC (.str "\"a  z\"")) (wCons (wC (.str "zzzzzzzz")) (wCons (wC (.str "letx")) (wNil))))))))) (wNil)))) (wNil))))) (wNext))
    (wSeq (wIfS (wTest (wBin eqV (vPk 2) (wC (.str "operator")))) (wSeq (wSet false 5 (wCall 2 V__law_pick (wCons (vVar 0) (wCons (wLst (wCons (wC (.str "+")) (wCons (wC (.str "-")) (wCons (wC (.str "*")) (wCons (wC (.str "/")) (wCons (wC (.str "&")) (wCons (wC (.str "|")) (wCons (wC (.str "^")) (wNil))))))))) (wNil)))))
    (wRet (wTup (wCons (vVar 2) (wCons (vVar 5) (wCons (wTup (wCons (wCall 2 vDraw (wCons (vVar 0) (wCons (vVar 1) (wNil)))) (wCons (wCall 2 vDraw (wCons (vVar 0) (wCons (vVar 1) (wNil)))) (wNil)))) (wNil))))))) (wNext))
    (wSeq (wSet false 3 (wIf (wTest (wBin eqV (vPk 2) (wC (.str "call")))) (wCall 2 V__law_pick (wCons (vVar 0) (wCons (wLst (wCons (wC (.int 0)) (wCons (wC (.int 1)) (wCons (wC (.int 2)) (wCons (wC (.int 3)) (wCons (wC (.int 4)) (wNil))))))) (wNil)))) (wCall 2 V__law_pick (wCons (vVar 0) (wCons (wLst (wCons (wC (.int 1)) (wCons (wC (.int 1)) (wCons (wC (.int 2)) (wCons (wC (.int 3)) (wCons (wC (.int 4)) (wNil))))))) (wNil))))))
    (wSeq (wSet false 4 (wCB tupleOfV (wCons (wLc (wiRg1 (wCons (vVar 3) (wNil))) (.nm 6) (wtTrue) (wCall 2 V__law_pick (wCons (vVar 0) (wCons (wLst (wCons (wBin subV (vPk 1) (wC (.int 1))) (wCons (wCall 2 vDraw (wCons (vVar 0) (wCons (vVar 1) (wNil)))) (wNil)))) (wNil)))) [6]) (wNil))))
    (wRet (wTup (wCons (vVar 2) (wCons (wCall 2 V__law_pick (wCons (vVar 0) (wCons (wLst (wCons (wC (.str "f")) (wCons (wC (.str "call")) (wCons (wC (.str "token")) (wCons (wC (.str "g")) (wCons (wC (.str "method")) (wNil))))))) (wNil)))) (wCons (vVar 4) (wNil))))))))))
theorem vw__law_step : v__law_step = w__law_step := rfl
def V__law_step : VF := vRun 7 v__law_step
theorem j__law_step : JS false m__law_step v__law_step := s_seq (s_set (f1 := false) 2 (j_call J__law_pick (a_cons (j_var 0) (a_cons (JF.e (f_lst (a_cons (JF.e ((f_str _))) (a_cons (JF.e ((f_str _))) (a_cons (JF.e ((f_str _))) (a_cons (JF.e ((f_str _))) (a_nil))))))) (a_nil)))))
    (s_seq (s_if (t_or (t_test (JF.p (f_bin op_eqV (p_var 2) (JF.p ((f_str _)))))) (t_test (JF.p (f_bin op_eqV (p_var 1) (JF.p ((f_int _))))))) (s_ret (JF.e (f_tup (a_cons (JF.e ((f_str _))) (a_cons (j_call J__law_pick (a_cons (j_var 0) (a_cons (JF.e (f_lst (a_cons (JF.e ((f_str _))) (a_cons (JF.e ((f_str _))) (a_cons (JF.e ((f_str _))) (a_cons (JF.e ((f_str _))) (a_cons (JF.e ((f_str _))) (a_cons (JF.e ((f_str _))) (a_cons (JF.e ((f_str _))) (a_nil)))))))))) (a_nil)))) (a_nil)))))) (s_next))
    (s_seq (s_if (t_test (JF.p (f_bin op_eqV (p_var 2) (JF.p ((f_str _)))))) (s_seq (s_set (f1 := false) 5 (j_call J__law_pick (a_cons (j_var 0) (a_cons (JF.e (f_lst (a_cons (JF.e ((f_str _))) (a_cons (JF.e ((f_str _))) (a_cons (JF.e ((f_str _))) (a_cons (JF.e ((f_str _))) (a_cons (JF.e ((f_str _))) (a_cons (JF.e ((f_str _))) (a_cons (JF.e ((f_str _))) (a_nil)))))))))) (a_nil)))))
    (s_ret (JF.e (f_tup (a_cons (j_var 2) (a_cons (j_var 5) (a_cons (JF.e (f_tup (a_cons (JF.e (f_call J__law_draw (a_cons (j_var 0) (a_cons (j_var 1) (a_nil))))) (a_cons (JF.e (f_call J__law_draw (a_cons (j_var 0) (a_cons (j_var 1) (a_nil))))) (a_nil))))) (a_nil)))))))) (s_next))
    (s_seq (s_set (f1 := false) 3 (j_if (t_test (JF.p (f_bin op_eqV (p_var 2) (JF.p ((f_str _)))))) (j_call J__law_pick (a_cons (j_var 0) (a_cons (JF.e (f_lst (a_cons (JF.e ((f_int _))) (a_cons (JF.e ((f_int _))) (a_cons (JF.e ((f_int _))) (a_cons (JF.e ((f_int _))) (a_cons (JF.e ((f_int _))) (a_nil)))))))) (a_nil)))) (j_call J__law_pick (a_cons (j_var 0) (a_cons (JF.e (f_lst (a_cons (JF.e ((f_int _))) (a_cons (JF.e ((f_int _))) (a_cons (JF.e ((f_int _))) (a_cons (JF.e ((f_int _))) (a_cons (JF.e ((f_int _))) (a_nil)))))))) (a_nil))))))
    (s_seq (s_set (f1 := false) 4 (JF.e (f_CB b_tuple (ap_cons (JF.p (f_lc (i_rg1 (a_cons (j_var 3) (a_nil))) (t_true) (j_call J__law_pick (a_cons (j_var 0) (a_cons (JF.e (f_lst (a_cons (JF.e (f_bin op_subV (p_var 1) (JF.p ((f_int _))))) (a_cons (JF.e (f_call J__law_draw (a_cons (j_var 0) (a_cons (j_var 1) (a_nil))))) (a_nil))))) (a_nil)))))) (ap_nil)))))
    (s_ret (JF.e (f_tup (a_cons (j_var 2) (a_cons (j_call J__law_pick (a_cons (j_var 0) (a_cons (JF.e (f_lst (a_cons (JF.e ((f_str _))) (a_cons (JF.e ((f_str _))) (a_cons (JF.e ((f_str _))) (a_cons (JF.e ((f_str _))) (a_cons (JF.e ((f_str _))) (a_nil)))))))) (a_nil)))) (a_cons (j_var 4) (a_nil)))))))))))
theorem J__law_step : JFn f__law_step V__law_step := j_run 7 j__law_step
def v_tokens_of : VSM := vSeq (vSet false 3 (vCall 2 V_length_of (vCons (vVar 0) (vCons (vVar 1) (vNil)))))
    (vSeq (vIfS (vTest (vBin gtV (vPk 3) (vPk 2))) (vRaise "TooLong" ["length"] (vCons (vVar 3) (vNil))) (vNext))
    (vSeq (vPar true true 4 5 (vLst (vNil)) (vCB listOfV (vCons (vUn revV (vPk 1)) (vNil))))
    (vSeq (vWhile (vTest (vBin neV (vPk 5) (vLst (vNil)))) (vSeq (vPop 6 5)
    (vIfS (vTru (vCB isiV (vCons (vPk 6) (vCons (vC (.raw (.ty "str"))) (vNil))))) (vApp 4 (vVar 6)) (vExt 5 (vUn revV (vCall 1 V_parts_of (vCons (vBin ixV (vPk 0) (vPk 6)) (vNil))))))))
    (vRet (vCB tupleOfV (vCons (vPk 4) (vNil)))))))
def w_tokens_of : VSM := wSeq (wSet false 3 (wCall 2 V_length_of (wCons (vVar 0) (wCons (vVar 1) (wNil)))))
    (wSeq (wIfS (wTest (wBin gtV (vPk 3) (vPk 2))) (wRaise "TooLong" ["length"] (wCons (vVar 3) (wNil))) (wNext))
    (wSeq (wPar true true 4 5 (wLst (wNil)) (wCB listOfV (wCons (wUn revV (vPk 1)) (wNil))))
    (wSeq (vWhile (wTest (wBin neV (vPk 5) (wLst (wNil)))) (wSeq (wPop 6 5)
    (wIfS (wTru (wCB isiV (wCons (vPk 6) (wCons (wC (.raw (.ty "str"))) (wNil))))) (wApp 4 (vVar 6)) (wExt 5 (wUn revV (wCall 1 V_parts_of (wCons (wBin ixV (vPk 0) (vPk 6)) (wNil))))))))
    (wRet (wCB tupleOfV (wCons (vPk 4) (wNil)))))))
theorem vw_tokens_of : v_tokens_of = w_tokens_of := rfl
def V_tokens_of : VF := vRun 7 v_tokens_of
theorem j_tokens_of : JS false m_tokens_of v_tokens_of := s_seq (s_set (f1 := false) 3 (j_call J_length_of (a_cons (j_var 0) (a_cons (j_var 1) (a_nil)))))
    (s_seq (s_if (t_test (JF.p (f_bin op_gtV (p_var 3) (p_var 2)))) (s_raise (a_cons (j_var 3) (a_nil))) (s_next))
    (s_seq (s_par (f1 := true) (f2 := true) 4 5 (by decide) (f_lst (a_nil)) (f_CB b_list (ap_cons (JF.p (f_rev (p_var 1))) (ap_nil))))
    (s_seq (s_while (t_test (JF.p (f_bin op_neV (p_var 5) (JF.p (f_lst (a_nil)))))) (s_seq (s_pop 6 5 (by decide))
    (s_if (t_tru (JF.p (f_CB b_isi (ap_cons (p_var 6) (ap_cons (JF.p ((f_raw _))) (ap_nil)))))) (s_app 4 (j_var 6)) (s_ext 5 (JF.e (f_rev (JE.p (j_call J_parts_of (a_cons (j_bin op_ixV (p_var 0) (p_var 6)) (a_nil))))))))))
    (s_ret (JF.e (f_CB b_tuple (ap_cons (p_var 4) (ap_nil))))))))
theorem J_tokens_of : JFn f_tokens_of V_tokens_of := j_run 7 j_tokens_of
def v__law_rows : VSM := vSeq (vPar true true 2 3 (vLst (vNil)) (vLst (vNil)))
    (vSeq (vFor (viRg1 (vCons (vBin addV (vC (.int 1)) (vCall 2 vDraw (vCons (vVar 0) (vCons (vC (.int 12)) (vNil))))) (vNil))) (.nm 1) (vSeq (vSet false 4 (vCall 2 V__law_step (vCons (vVar 0) (vCons (vCB lenV (vCons (vPk 2) (vNil))) (vNil)))))
    (vIfS (vTest (vBin leV (vCallB 2 V__law_size (vCons (vPk 4) (vCons (vPk 3) (vNil)))) (vC (.int 600)))) (vSeq (vApp 2 (vVar 4))
    (vApp 3 (vCallB 2 V__law_size (vCons (vPk 4) (vCons (vPk 3) (vNil)))))) (vNext))))
    (vRet (vCB tupleOfV (vCons (vPk 2) (vNil)))))
def w__law_rows : VSM := wSeq (wPar true true 2 3 (wLst (wNil)) (wLst (wNil)))
    (wSeq (wFor (wiRg1 (wCons (wBin addV (wC (.int 1)) (wCall 2 vDraw (wCons (vVar 0) (wCons (wC (.int 12)) (wNil))))) (wNil))) (.nm 1) (wSeq (wSet false 4 (wCall 2 V__law_step (wCons (vVar 0) (wCons (wCB lenV (wCons (vPk 2) (wNil))) (wNil)))))
    (wIfS (wTest (wBin leV (wCallB 2 V__law_size (wCons (vPk 4) (wCons (vPk 3) (wNil)))) (wC (.int 600)))) (wSeq (wApp 2 (vVar 4))
    (wApp 3 (wCallB 2 V__law_size (wCons (vPk 4) (wCons (vPk 3) (wNil)))))) (wNext))))
    (wRet (wCB tupleOfV (wCons (vPk 2) (wNil)))))
theorem vw__law_rows : v__law_rows = w__law_rows := rfl
def V__law_rows : VF := vRun 5 v__law_rows
theorem j__law_rows : JS false m__law_rows v__law_rows := s_seq (s_par (f1 := true) (f2 := true) 2 3 (by decide) (f_lst (a_nil)) (f_lst (a_nil)))
    (s_seq (s_for (i_rg1 (a_cons (JF.e (f_bin op_addV (JF.p ((f_int _))) (JF.p (f_call J__law_draw (a_cons (j_var 0) (a_cons (JF.e ((f_int _))) (a_nil))))))) (a_nil))) (s_seq (s_set (f1 := false) 4 (j_call J__law_step (a_cons (j_var 0) (a_cons (JF.e (f_CB b_len (ap_cons (p_var 2) (ap_nil)))) (a_nil)))))
    (s_if (t_test (JF.p (f_bin op_leV (JF.p (f_callB J__law_size (ap_cons (p_var 4) (ap_cons (p_var 3) (ap_nil))))) (JF.p ((f_int _)))))) (s_seq (s_app 2 (j_var 4))
    (s_app 3 (JF.e (f_callB J__law_size (ap_cons (p_var 4) (ap_cons (p_var 3) (ap_nil))))))) (s_next))))
    (s_ret (JF.e (f_CB b_tuple (ap_cons (p_var 2) (ap_nil))))))
theorem J__law_rows : JFn f__law_rows V__law_rows := j_run 5 j__law_rows
def v__law_heard : VSM := vSeq (vSet false 3 (vC .non))
    (vSeq (vTry 4 (vSet false 3 (vIf (vTest (vBin isNotV (vPk 2) (vC .non))) (vCallK 3 V_tokens_of [(false, 0), (false, 1), (true, 0)] (vCons (vVar 0) (vCons (vVar 1) (vNil))) (vCons (vVar 2) (vNil))) (vCallD 3 V_tokens_of [.int 2000] (vCons (vVar 0) (vCons (vVar 1) (vNil)))))) y_TooLong n_TooLong (fun x => vSet false 3 ((fun x => vIf (vTru ((vXi y_GapError n_GapError) x)) ((fun x => vLst ((fun x => vCons ((vXf y_TooLong "length") x) ((fun _ => vNil) x)) x)) x) ((fun _ => vLst (vCons (vC (.str "another error")) (vNil))) x)) x)))
    (vRetV false 3))
def w__law_heard : VSM := wSeq (wSet false 3 (wC .non))
    (wSeq (wTry 4 (wSet false 3 (wIf (wTest (wBin isNotV (vPk 2) (wC .non))) (wCallK 3 V_tokens_of [(false, 0), (false, 1), (true, 0)] (wCons (vVar 0) (wCons (vVar 1) (wNil))) (wCons (vVar 2) (wNil))) (wCallD 3 V_tokens_of [.int 2000] (wCons (vVar 0) (wCons (vVar 1) (wNil)))))) y_TooLong n_TooLong (fun x => wSet false 3 ((fun x => wIf (wTru ((wXi y_GapError n_GapError) x)) ((fun x => wLst ((fun x => wCons ((wXf y_TooLong "length") x) ((fun _ => wNil) x)) x)) x) ((fun _ => wLst (wCons (wC (.str "another error")) (wNil))) x)) x)))
    (vRetV false 3))
theorem vw__law_heard : v__law_heard = w__law_heard := rfl
def V__law_heard : VF := vRun 5 v__law_heard
theorem j__law_heard : JS false m__law_heard v__law_heard := s_seq (s_set (f1 := false) 3 (JF.e (f_non)))
    (s_seq (s_try 4 (s_set (f1 := false) 3 (j_if (t_test (JF.p (f_bin op_isNotV (p_var 2) (JF.p (f_non))))) (j_callK J_tokens_of (a_cons (j_var 0) (a_cons (j_var 1) (a_nil))) (a_cons (j_var 2) (a_nil))) (j_callD J_tokens_of (fun _ _ _ => by simp only [RVs, RV]; exact ⟨_, _, rfl, rfl, rfl⟩) (a_cons (j_var 0) (a_cons (j_var 1) (a_nil)))))) (x_set 3 (x_if (x_tru (x_isi)) (x_lst (x_cons (x_fld) (x_nil))) (x_of (JF.e (f_lst (a_cons (JF.e ((f_str _))) (a_nil))))))))
    (s_retV 3))
theorem J__law_heard : JFn f__law_heard V__law_heard := j_run 5 j__law_heard
def v__law_right : VSM := vSeq (vPar3 6 7 8 (vCons (vCall 1 V__law_written (vCons (vVar 1) (vNil))) (vCons (vLst (vNil)) (vCons (vCB reprV (vCons (vLst (vCons (vVar 1) (vCons (vVar 2) (vNil)))) (vNil))) (vNil)))))
    (vSeq (vFor (viAny (vVar 2)) (.nm 3) (vSet false 7 (vBin addV (vPk 7) (vIf (vTru (vCB isiV (vCons (vPk 3) (vCons (vC (.raw (.ty "str"))) (vNil))))) (vLst (vCons (vVar 3) (vNil))) (vBin ixV (vPk 6) (vPk 3))))))
    (vSeq (vSet false 4 (vCB lenV (vCons (vPk 7) (vNil))))
    (vSeq (vIfS (vTest (vBin neV (vCB reprV (vCons (vLst (vCons (vCall 2 V_length_of (vCons (vVar 1) (vCons (vVar 2) (vNil)))) (vCons (vCallK 2 V_length_of [(true, 1), (true, 0)] vNil (vCons (vVar 2) (vCons (vVar 1) (vNil)))) (vNil)))) (vNil))) (vCB reprV (vCons (vLst (vCons (vVar 4) (vCons (vVar 4) (vNil)))) (vNil))))) (vRet (vC (.bl false))) (vNext))
    (vSeq (vFor (viAny (vLst (vCons (vVar 4) (vCons (vBin addV (vPk 4) (vCall 2 vDraw (vCons (vVar 0) (vCons (vC (.int 9)) (vNil))))) (vCons (vCB maxV (vCons (vC (.int 0)) (vCons (vBin subV (vPk 4) (vC (.int 1))) (vNil)))) (vCons (vC (.int 0)) (vCons (vCall 2 vDraw (vCons (vVar 0) (vCons (vC (.int 20)) (vNil)))) (vCons (vC .non) (vNil))))))))) (.nm 5) (vSeq (vSet false 9 (vIf (vTest (vBin leV (vPk 4) (vIf (vTest (vBin isV (vPk 5) (vC .non))) (vC (.int 2000)) (vVar 5)))) (vCB reprV (vCons (vCB tupleOfV (vCons (vPk 7) (vNil))) (vNil))) (vCB reprV (vCons (vLst (vCons (vVar 4) (vNil))) (vNil)))))
    (vIfS (vTest (vBin neV (vCB reprV (vCons (vCall 3 V__law_heard (vCons (vVar 1) (vCons (vVar 2) (vCons (vVar 5) (vNil))))) (vNil))) (vPk 9))) (vRet (vC (.bl false))) (vNext))))
    (vSeq (vIfS (vTest (vBin neV (vCB reprV (vCons (vCallK 3 V_tokens_of [(true, 2), (true, 1), (true, 0)] vNil (vCons (vVar 4) (vCons (vVar 2) (vCons (vVar 1) (vNil))))) (vNil))) (vCB reprV (vCons (vCB tupleOfV (vCons (vPk 7) (vNil))) (vNil))))) (vRet (vC (.bl false))) (vNext))
    (vRet (vBin eqV (vCB reprV (vCons (vLst (vCons (vVar 1) (vCons (vVar 2) (vNil)))) (vNil))) (vPk 8))))))))
def w__law_right : VSM := wSeq (wPar3 6 7 8 (wCons (wCall 1 V__law_written (wCons (vVar 1) (wNil))) (wCons (wLst (wNil)) (wCons (wCB reprV (wCons (wLst (wCons (vVar 1) (wCons (vVar 2) (wNil)))) (wNil))) (wNil)))))
    (wSeq (wFor (wiAny (vVar 2)) (.nm 3) (wSet false 7 (wBin addV (vPk 7) (wIf (wTru (wCB isiV (wCons (vPk 3) (wCons (wC (.raw (.ty "str"))) (wNil))))) (wLst (wCons (vVar 3) (wNil))) (wBin ixV (vPk 6) (vPk 3))))))
    (wSeq (wSet false 4 (wCB lenV (wCons (vPk 7) (wNil))))
    (wSeq (wIfS (wTest (wBin neV (wCB reprV (wCons (wLst (wCons (wCall 2 V_length_of (wCons (vVar 1) (wCons (vVar 2) (wNil)))) (wCons (wCallK 2 V_length_of [(true, 1), (true, 0)] wNil (wCons (vVar 2) (wCons (vVar 1) (wNil)))) (wNil)))) (wNil))) (wCB reprV (wCons (wLst (wCons (vVar 4) (wCons (vVar 4) (wNil)))) (wNil))))) (wRet (wC (.bl false))) (wNext))
    (wSeq (wFor (wiAny (wLst (wCons (vVar 4) (wCons (wBin addV (vPk 4) (wCall 2 vDraw (wCons (vVar 0) (wCons (wC (.int 9)) (wNil))))) (wCons (wCB maxV (wCons (wC (.int 0)) (wCons (wBin subV (vPk 4) (wC (.int 1))) (wNil)))) (wCons (wC (.int 0)) (wCons (wCall 2 vDraw (wCons (vVar 0) (wCons (wC (.int 20)) (wNil)))) (wCons (wC .non) (wNil))))))))) (.nm 5) (wSeq (wSet false 9 (wIf (wTest (wBin leV (vPk 4) (wIf (wTest (wBin isV (vPk 5) (wC .non))) (wC (.int 2000)) (vVar 5)))) (wCB reprV (wCons (wCB tupleOfV (wCons (vPk 7) (wNil))) (wNil))) (wCB reprV (wCons (wLst (wCons (vVar 4) (wNil))) (wNil)))))
    (wIfS (wTest (wBin neV (wCB reprV (wCons (wCall 3 V__law_heard (wCons (vVar 1) (wCons (vVar 2) (wCons (vVar 5) (wNil))))) (wNil))) (vPk 9))) (wRet (wC (.bl false))) (wNext))))
    (wSeq (wIfS (wTest (wBin neV (wCB reprV (wCons (wCallK 3 V_tokens_of [(true, 2), (true, 1), (true, 0)] wNil (wCons (vVar 4) (wCons (vVar 2) (wCons (vVar 1) (wNil))))) (wNil))) (wCB reprV (wCons (wCB tupleOfV (wCons (vPk 7) (wNil))) (wNil))))) (wRet (wC (.bl false))) (wNext))
    (wRet (wBin eqV (wCB reprV (wCons (wLst (wCons (vVar 1) (wCons (vVar 2) (wNil)))) (wNil))) (vPk 8))))))))
theorem vw__law_right : v__law_right = w__law_right := rfl
def V__law_right : VF := vRun 10 v__law_right
theorem j__law_right : JS false m__law_right v__law_right := s_seq (s_par3 6 7 8 (a_cons (j_call J__law_written (a_cons (j_var 1) (a_nil))) (a_cons (JF.e (f_lst (a_nil))) (a_cons (JF.e (f_CB b_repr (ap_cons (JF.p (f_lst (a_cons (j_var 1) (a_cons (j_var 2) (a_nil))))) (ap_nil)))) (a_nil)))))
    (s_seq (s_for (i_any (j_var 2)) (s_set (f1 := false) 7 (JF.e (f_bin op_addV (p_var 7) (JE.p (j_if (t_tru (JF.p (f_CB b_isi (ap_cons (p_var 3) (ap_cons (JF.p ((f_raw _))) (ap_nil)))))) (JF.e (f_lst (a_cons (j_var 3) (a_nil)))) (j_bin op_ixV (p_var 6) (p_var 3))))))))
    (s_seq (s_set (f1 := false) 4 (JF.e (f_CB b_len (ap_cons (p_var 7) (ap_nil)))))
    (s_seq (s_if (t_test (JF.p (f_bin op_neV (JF.p (f_CB b_repr (ap_cons (JF.p (f_lst (a_cons (j_call J_length_of (a_cons (j_var 1) (a_cons (j_var 2) (a_nil)))) (a_cons (j_callK J_length_of a_nil (a_cons (j_var 2) (a_cons (j_var 1) (a_nil)))) (a_nil))))) (ap_nil)))) (JF.p (f_CB b_repr (ap_cons (JF.p (f_lst (a_cons (j_var 4) (a_cons (j_var 4) (a_nil))))) (ap_nil))))))) (s_ret (JF.e ((f_bl _)))) (s_next))
    (s_seq (s_for (i_any (JF.e (f_lst (a_cons (j_var 4) (a_cons (JF.e (f_bin op_addV (p_var 4) (JF.p (f_call J__law_draw (a_cons (j_var 0) (a_cons (JF.e ((f_int _))) (a_nil))))))) (a_cons (JF.e (f_CB b_max (ap_cons (JF.p ((f_int _))) (ap_cons (JF.p (f_bin op_subV (p_var 4) (JF.p ((f_int _))))) (ap_nil))))) (a_cons (JF.e ((f_int _))) (a_cons (JF.e (f_call J__law_draw (a_cons (j_var 0) (a_cons (JF.e ((f_int _))) (a_nil))))) (a_cons (JF.e (f_non)) (a_nil)))))))))) (s_seq (s_set (f1 := false) 9 (JF.e (f_if (t_test (JF.p (f_bin op_leV (p_var 4) (JE.p (j_if (t_test (JF.p (f_bin op_isV (p_var 5) (JF.p (f_non))))) (JF.e ((f_int _))) (j_var 5)))))) (f_CB b_repr (ap_cons (JF.p (f_CB b_tuple (ap_cons (p_var 7) (ap_nil)))) (ap_nil))) (f_CB b_repr (ap_cons (JF.p (f_lst (a_cons (j_var 4) (a_nil)))) (ap_nil))))))
    (s_if (t_test (JF.p (f_bin op_neV (JF.p (f_CB b_repr (ap_cons (JE.p (j_call J__law_heard (a_cons (j_var 1) (a_cons (j_var 2) (a_cons (j_var 5) (a_nil)))))) (ap_nil)))) (p_var 9)))) (s_ret (JF.e ((f_bl _)))) (s_next))))
    (s_seq (s_if (t_test (JF.p (f_bin op_neV (JF.p (f_CB b_repr (ap_cons (JE.p (j_callK J_tokens_of a_nil (a_cons (j_var 4) (a_cons (j_var 2) (a_cons (j_var 1) (a_nil)))))) (ap_nil)))) (JF.p (f_CB b_repr (ap_cons (JF.p (f_CB b_tuple (ap_cons (p_var 7) (ap_nil)))) (ap_nil))))))) (s_ret (JF.e ((f_bl _)))) (s_next))
    (s_ret (JF.e (f_bin op_eqV (JF.p (f_CB b_repr (ap_cons (JF.p (f_lst (a_cons (j_var 1) (a_cons (j_var 2) (a_nil))))) (ap_nil)))) (p_var 8)))))))))
theorem J__law_right : JFn f__law_right V__law_right := j_run 10 j__law_right
def v_rest : VSM := vSeq (vFor (viRg1 (vCons (vC (.int 8)) (vNil))) (.nm 2) (vSeq (vSet false 3 (vCall 1 V__law_rows (vCons (vVar 1) (vNil))))
    (vSeq (vPar true false 5 6 (vLst (vNil)) (vLst (vCons (vC (.str "give")) (vCons (vC (.str ";")) (vCons (vC (.str "=")) (vCons (vC (.str "if")) (vCons (vC (.str "0")) (vCons (vC (.str ")")) (vNil)))))))))
    (vSeq (vFor (viRg1 (vCons (vCall 2 V__law_pick (vCons (vVar 1) (vCons (vLst (vCons (vC (.int 0)) (vCons (vC (.int 1)) (vCons (vC (.int 1)) (vCons (vC (.int 3)) (vCons (vC (.int 8)) (vNil))))))) (vNil)))) (vNil))) (.nm 4) (vApp 5 (vCall 2 V__law_pick (vCons (vVar 1) (vCons (vLst (vCons (vCall 2 vDraw (vCons (vVar 1) (vCons (vCB lenV (vCons (vPk 3) (vNil))) (vNil)))) (vCons (vCall 2 V__law_pick (vCons (vVar 1) (vCons (vVar 6) (vNil)))) (vNil)))) (vNil))))))
    (vIfS (vtOr (vtNot (vTru (vCall 3 V__law_right (vCons (vVar 1) (vCons (vVar 3) (vCons (vCB tupleOfV (vCons (vPk 5) (vNil))) (vNil))))))) (vtNot (vTru (vCall 3 V__law_right (vCons (vVar 1) (vCons (vVar 3) (vCons (vTup (vCons (vBin subV (vCB lenV (vCons (vPk 3) (vNil))) (vC (.int 1))) (vNil))) (vNil)))))))) (vRet (vC (.bl false))) (vNext))))))
    (vRet (vC (.bl true)))
def w_rest : VSM := wSeq (wFor (wiRg1 (wCons (wC (.int 8)) (wNil))) (.nm 2) (wSeq (wSet false 3 (wCall 1 V__law_rows (wCons (vVar 1) (wNil))))
    (wSeq (wPar true false 5 6 (wLst (wNil)) (wLst (wCons (wC (.str "give")) (wCons (wC (.str ";")) (wCons (wC (.str "=")) (wCons (wC (.str "if")) (wCons (wC (.str "0")) (wCons (wC (.str ")")) (wNil)))))))))
    (wSeq (wFor (wiRg1 (wCons (wCall 2 V__law_pick (wCons (vVar 1) (wCons (wLst (wCons (wC (.int 0)) (wCons (wC (.int 1)) (wCons (wC (.int 1)) (wCons (wC (.int 3)) (wCons (wC (.int 8)) (wNil))))))) (wNil)))) (wNil))) (.nm 4) (wApp 5 (wCall 2 V__law_pick (wCons (vVar 1) (wCons (wLst (wCons (wCall 2 vDraw (wCons (vVar 1) (wCons (wCB lenV (wCons (vPk 3) (wNil))) (wNil)))) (wCons (wCall 2 V__law_pick (wCons (vVar 1) (wCons (vVar 6) (wNil)))) (wNil)))) (wNil))))))
    (wIfS (wtOr (wtNot (wTru (wCall 3 V__law_right (wCons (vVar 1) (wCons (vVar 3) (wCons (wCB tupleOfV (wCons (vPk 5) (wNil))) (wNil))))))) (wtNot (wTru (wCall 3 V__law_right (wCons (vVar 1) (wCons (vVar 3) (wCons (wTup (wCons (wBin subV (wCB lenV (wCons (vPk 3) (wNil))) (wC (.int 1))) (wNil))) (wNil)))))))) (wRet (wC (.bl false))) (wNext))))))
    (wRet (wC (.bl true)))
theorem vw_rest : v_rest = w_rest := rfl
theorem j_rest : JS false m_rest v_rest := s_seq (s_for (i_rg1 (a_cons (JF.e ((f_int _))) (a_nil))) (s_seq (s_set (f1 := false) 3 (j_call J__law_rows (a_cons (j_var 1) (a_nil))))
    (s_seq (s_par (f1 := true) (f2 := false) 5 6 (by decide) (f_lst (a_nil)) (JF.e (f_lst (a_cons (JF.e ((f_str _))) (a_cons (JF.e ((f_str _))) (a_cons (JF.e ((f_str _))) (a_cons (JF.e ((f_str _))) (a_cons (JF.e ((f_str _))) (a_cons (JF.e ((f_str _))) (a_nil))))))))))
    (s_seq (s_for (i_rg1 (a_cons (j_call J__law_pick (a_cons (j_var 1) (a_cons (JF.e (f_lst (a_cons (JF.e ((f_int _))) (a_cons (JF.e ((f_int _))) (a_cons (JF.e ((f_int _))) (a_cons (JF.e ((f_int _))) (a_cons (JF.e ((f_int _))) (a_nil)))))))) (a_nil)))) (a_nil))) (s_app 5 (j_call J__law_pick (a_cons (j_var 1) (a_cons (JF.e (f_lst (a_cons (JF.e (f_call J__law_draw (a_cons (j_var 1) (a_cons (JF.e (f_CB b_len (ap_cons (p_var 3) (ap_nil)))) (a_nil))))) (a_cons (j_call J__law_pick (a_cons (j_var 1) (a_cons (j_var 6) (a_nil)))) (a_nil))))) (a_nil))))))
    (s_if (t_or (t_not (t_tru (JE.p (j_call J__law_right (a_cons (j_var 1) (a_cons (j_var 3) (a_cons (JF.e (f_CB b_tuple (ap_cons (p_var 5) (ap_nil)))) (a_nil)))))))) (t_not (t_tru (JE.p (j_call J__law_right (a_cons (j_var 1) (a_cons (j_var 3) (a_cons (JF.e (f_tup (a_cons (JF.e (f_bin op_subV (JF.p (f_CB b_len (ap_cons (p_var 3) (ap_nil)))) (JF.p ((f_int _))))) (a_nil)))) (a_nil))))))))) (s_ret (JF.e ((f_bl _)))) (s_next))))))
    (s_ret (JF.e ((f_bl _))))
theorem ans_of (f : ∀ ns : List Int, ns.length ≤ 63 → v_rest (some (.sh (.scr ns)) :: some (.sh .hand) :: List.replicate 5 none) { nx := fun _ => False, rt := fun v => v = .bl true }) (ns : List Int) (hn : ns.length ≤ 63) :
    ∃ S', f_law [.ref 0] [.fz (ns.map D.int)] = .ok (.bl true) S' := law_V (b0 := 98543) (b1 := 40014) (b2 := 2147483549) (b3 := 47) (b4 := 2147483563) (by decide) j_rest 5 hn (f ns hn)
end K43

/-! rows of steps and the tokens that they stand for, in plain Lean -/
namespace K43
open PySem L2 DL
/-- a part: a token, or a row by its number -/
inductive Pt where
  | tk (x : Str) | ix (k : Nat)
inductive Sp where
  | tk (x : Str) | call (n : Str) (ks : List Nat) | meth (n : Str) (k : Nat) (ks : List Nat) | oper (s : Str) (i j : Nat)
def cm (ks : List Nat) : List Pt := ks.flatMap fun k => [.tk ",", .ix k]
def parts : Sp → List Pt
  | .tk x => [.tk x]
  | .call n ks => .tk n :: .tk "(" :: ((cm ks).drop 1 ++ [.tk ")"])
  | .meth n k ks => .ix k :: .tk "." :: .tk n :: .tk "(" :: ((cm ks).drop 1 ++ [.tk ")"])
  | .oper s i j => [.tk "(", .ix i, .tk s, .ix j, .tk ")"]
/-- the tokens of parts, where T holds those of the rows -/
def exp (T : List (List Str)) : List Pt → List Str
  | [] => []
  | .tk x :: r => x :: exp T r
  | .ix k :: r => T.getD k [] ++ exp T r
def tab (rows : List Sp) : List (List Str) := rows.foldl (fun T s => T ++ [exp T (parts s)]) []
/-- all numbers are below n -/
def Lo (n : Nat) (ps : List Pt) : Prop := ∀ k, Pt.ix k ∈ ps → k < n
/-- each row speaks of rows ahead of it -/
def Wf (rows : List Sp) : Prop := ∀ m s, rows[m]? = some s → Lo m (parts s)
theorem exp_app (T : List (List Str)) : ∀ a b : List Pt, exp T (a ++ b) = exp T a ++ exp T b
  | [], b => rfl
  | .tk x :: a, b => by show x :: exp T (a ++ b) = x :: exp T a ++ exp T b; rw [exp_app T a b]; rfl
  | .ix k :: a, b => by
    show T.getD k [] ++ exp T (a ++ b) = (T.getD k [] ++ exp T a) ++ exp T b
    rw [exp_app T a b, List.append_assoc]
theorem tab_snoc (rows : List Sp) (s : Sp) : tab (rows ++ [s]) = tab rows ++ [exp (tab rows) (parts s)] := by
  unfold tab
  rw [List.foldl_append]
  rfl
theorem tab_len (rows : List Sp) : (tab rows).length = rows.length := by
  have : ∀ (l : List Sp) (T : List (List Str)), (l.foldl (fun T s => T ++ [exp T (parts s)]) T).length = T.length + l.length := fun l => by
    induction l with
    | nil => intro T; rfl
    | cons s l ih => intro T; rw [List.foldl_cons, ih, List.length_append, List.length_cons, List.length_cons]; simp only [List.length_nil]; omega
  have := this rows []
  simpa [tab] using this
theorem take_snoc {α : Type} {l : List α} {m : Nat} {s : α} (h : l[m]? = some s) : l.take (m + 1) = l.take m ++ [s] := by
  rw [List.take_add_one, h]; rfl
/-- the table grows at its end alone -/
theorem tab_pre (rows : List Sp) : ∀ n m : Nat, m ≤ n → (tab (rows.take m)) <+: (tab (rows.take n))
  | 0, m, h => by have : m = 0 := by omega
                  subst this; exact List.prefix_refl _
  | n + 1, m, h => by
    by_cases e : m = n + 1
    · subst e; exact List.prefix_refl _
    · have ih := tab_pre rows n m (by omega)
      cases hs : rows[n]? with
      | none =>
        have : rows.take (n + 1) = rows.take n := by
          rw [List.take_add_one, hs]; simp
        rw [this]; exact ih
      | some s =>
        rw [take_snoc hs, tab_snoc]
        exact ih.trans (List.prefix_append _ _)
theorem tab_pre_all (rows : List Sp) (m : Nat) : (tab (rows.take m)) <+: tab rows := by
  by_cases h : m ≤ rows.length
  · have := tab_pre rows rows.length m h
    rwa [List.take_length] at this
  · rw [List.take_of_length_le (by omega)]; exact List.prefix_refl _
theorem getD_pre {α : Type} {a b : List α} {d : α} {k : Nat} (h : a <+: b) (hk : k < a.length) : a.getD k d = b.getD k d := by
  obtain ⟨t, rfl⟩ := h
  rw [List.getD_eq_getElem?_getD, List.getD_eq_getElem?_getD, List.getElem?_append_left hk]
theorem exp_pre {T U : List (List Str)} (h : T <+: U) : ∀ {ps : List Pt}, Lo T.length ps → exp T ps = exp U ps
  | [], _ => rfl
  | .tk x :: r, l => by
    show x :: exp T r = x :: exp U r
    rw [exp_pre h fun k hk => l k (List.mem_cons_of_mem _ hk)]
  | .ix k :: r, l => by
    show T.getD k [] ++ exp T r = U.getD k [] ++ exp U r
    rw [exp_pre h fun k hk => l k (List.mem_cons_of_mem _ hk), getD_pre h (l k List.mem_cons_self)]
/-- a row's tokens: those of its parts -/
theorem tab_at {rows : List Sp} (wf : Wf rows) {m : Nat} {s : Sp} (h : rows[m]? = some s) : (tab rows).getD m [] = exp (tab rows) (parts s) := by
  have hm : m < rows.length := (List.getElem?_eq_some_iff.mp h).1
  have l1 : (tab (rows.take m)).length = m := by rw [tab_len, List.length_take]; omega
  have p1 := tab_pre_all rows m
  have p2 := tab_pre_all rows (m + 1)
  rw [take_snoc h, tab_snoc] at p2
  rw [← exp_pre p1 (by rw [l1]; exact wf m s h), ← getD_pre p2 (by rw [List.length_append, l1]; simp)]
  rw [List.getD_eq_getElem?_getD, List.getElem?_append_right (by omega), l1]
  simp
/-! how long -/
def lens (T : List (List Str)) : List Nat := T.map (·.length)
def lenP (L : List Nat) : List Pt → Nat
  | [] => 0
  | .tk _ :: r => 1 + lenP L r
  | .ix k :: r => L.getD k 0 + lenP L r
theorem lenP_exp (T : List (List Str)) : ∀ ps : List Pt, lenP (lens T) ps = (exp T ps).length
  | [] => rfl
  | .tk x :: r => by
    show 1 + lenP (lens T) r = (x :: exp T r).length
    rw [lenP_exp T r, List.length_cons]; omega
  | .ix k :: r => by
    show (lens T).getD k 0 + lenP (lens T) r = (T.getD k [] ++ exp T r).length
    rw [lenP_exp T r, List.length_append]
    unfold lens
    rw [List.getD_eq_getElem?_getD, List.getD_eq_getElem?_getD, List.getElem?_map]
    cases T[k]? <;> rfl
/-! the way down: how many parts are taken up until all tokens stand there -/
def wgt (U : List Nat) : List Pt → Nat
  | [] => 0
  | .tk _ :: r => 1 + wgt U r
  | .ix k :: r => 1 + U.getD k 0 + wgt U r
def wtab (rows : List Sp) : List Nat := rows.foldl (fun U s => U ++ [wgt U (parts s)]) []
/-! what the law joins by hand -/
def btw : List (List Str) → List Str
  | [] => []
  | [x] => x
  | x :: y :: r => x ++ Str.ofString "," :: btw (y :: r)
theorem exp_cm (T : List (List Str)) : ∀ ks : List Nat, exp T ((cm ks).drop 1) = btw (ks.map fun k => T.getD k [])
  | [] => rfl
  | [k] => by
    show T.getD k [] ++ [] = T.getD k []
    rw [List.append_nil]
  | k :: l :: r => by
    have ih := exp_cm T (l :: r)
    show T.getD k [] ++ (Str.ofString "," :: exp T ((cm (l :: r)).drop 1)) = T.getD k [] ++ Str.ofString "," :: btw ((l :: r).map fun k => T.getD k [])
    rw [ih]
end K43

set_option maxHeartbeats 1000000
/-! parts and lengths on values -/
namespace K43
open PySem L2 DL
def vP : Pt → Vl
  | .tk x => .str x
  | .ix k => .int (k : Nat)
def nums (ks : List Nat) : List Vl := ks.map fun k => Vl.int (k : Nat)
def vS : Sp → Vl
  | .tk x => .tup [.str "token", .str x]
  | .call n ks => .tup [.str "call", .str n, .tup (nums ks)]
  | .meth n k ks => .tup [.str "method", .str n, .tup (nums (k :: ks))]
  | .oper s i j => .tup [.str "operator", .str s, .tup [.int (i : Nat), .int (j : Nat)]]
def lS (ts : List Str) : Vl := .lst (ts.map .str)
theorem sv1 (v : Vl) : startV 1 [v] = [some (.sh v)] := rfl
theorem len_l (xs : List Vl) : lenV [.lst xs] = some (.int (xs.length : Nat)) := rfl
theorem len_t (xs : List Vl) : lenV [.tup xs] = some (.int (xs.length : Nat)) := rfl
theorem from1 {α : Type} (xs : List α) : cutL xs (some 1) none = xs.drop 1 := by
  unfold cutL
  have e : HT.sIx xs.length 0 (some 1) = min 1 xs.length := by
    rw [show (1 : Int) = ((1 : Nat) : Int) from rfl, HT.sIx_nat]
  rw [e, HT.sIx_none]
  cases xs with
  | nil => rfl
  | cons x xs =>
    rw [show min 1 (x :: xs).length = 1 by rw [List.length_cons]; omega]
    rw [List.take_of_length_le (by rw [List.length_drop]; exact Nat.le_refl _)]
theorem at0 {α : Type} (x : α) (xs : List α) : atI (x :: xs) 0 = some x := by
  unfold atI ixN
  rw [if_pos (by decide), if_pos (by rw [List.length_cons]; omega)]
  rfl
theorem cm_app (a b : List Nat) : cm (a ++ b) = cm a ++ cm b := by unfold cm; rw [List.flatMap_append]
theorem cm_len (a : List Nat) : (cm a).length = 2 * a.length := by
  induction a with
  | nil => rfl
  | cons k a ih =>
    show (Pt.tk "," :: Pt.ix k :: cm a).length = _
    rw [List.length_cons, List.length_cons, ih, List.length_cons]; omega
section
variable {Q : Vl → Prop} {E : VX → Prop}
def lisB : VSM := vExt 1 (vLst (vCons (vC (.str ",")) (vCons (vVar 2) (vNil))))
theorem k_listed {ks : List Nat} (hn : ks.length ≤ 1000) (q : Q (.lst (((cm ks).drop 1).map vP))) : V_listed [.tup (nums ks)] Q E := by
  unfold V_listed vRun v_listed
  have s3 : startV 3 [.tup (nums ks)] = [some (.sh (.tup (nums ks))), none, none] := rfl
  have bdy : vExt 1 (vLst (vCons (vC (.str ",")) (vCons (vVar 2) (vNil)))) = lisB := rfl
  rw [bdy]
  simp -implicitDefEqProofs only [s3, vSeq, vSet, vDrop, vRet, vRetV, vRetN, vNext, vBreak, vCont, vIfS, vPar, vAsg, vCall, vCallK, vCallB, vCons, vNil, vVar, vPk, vC, vBin, vUn, vCB, vMt, vTest, vTru, vtAnd, vtOr, vtNot, vtTrue, vIf, vAnd, vOr, vNot, vChain, vTup, vLst, vSl, voNone, voSome, viAny, viRg1, viRg2, vFor, vLc, vRaise, DL.mk, Bool.false_and, Bool.true_and, isC, List.getElem?_cons_zero, List.getElem?_cons_succ, List.set_cons_zero, List.set_cons_succ, vO_some, vO_none, if_true, if_false, Bool.false_eq_true, Bool.not_true, Bool.not_false, itemsV]
  refine ⟨Nat.zero_le _, by unfold nums; rw [List.length_map]; omega, ?_⟩
  refine loop_at (J := fun i e => ∃ o, e = [some (.sh (.tup (nums ks))), some (.ow (.lst ((cm (ks.take i)).map vP))), o]) _ 0 ⟨none, rfl⟩ (fun j v env K hj hJ hK => ?_) fun e he => ?_
  · unfold nums at hj
    rw [List.getElem?_map] at hj
    obtain ⟨k, hk, rfl⟩ := Option.map_eq_some_iff.mp hj
    rw [Nat.zero_add] at hJ
    obtain ⟨o, rfl⟩ := hJ
    unfold lisB
    simp only [Tg.putV, vSeq, vSet, vDrop, vRet, vRetV, vRetN, vNext, vBreak, vCont, vIfS, vPar, vAsg, vCall, vCallK, vCallB, vCons, vNil, vVar, vPk, vC, vBin, vUn, vCB, vMt, vTest, vTru, vtAnd, vtOr, vtNot, vtTrue, vIf, vAnd, vOr, vNot, vChain, vTup, vLst, vSl, voNone, voSome, viAny, viRg1, viRg2, vFor, vLc, vRaise, DL.mk, Bool.false_and, Bool.true_and, isC, List.getElem?_cons_zero, List.getElem?_cons_succ, List.set_cons_zero, List.set_cons_succ, vO_some, vO_none, if_true, if_false, Bool.false_eq_true, Bool.not_true, Bool.not_false, vExt, ownL]
    refine ⟨by show 2 ≤ 16777216; decide, ?_, ?_⟩
    · rw [List.length_map, cm_len, List.length_take]
      show _ + 2 ≤ 16777216
      omega
    · refine hK _ ⟨some (.sh (.int (k : Nat))), ?_⟩
      rw [Nat.zero_add, take_snoc hk, cm_app, List.map_append]
      rfl
  · obtain ⟨o, rfl⟩ := he
    have e2 : ks.take (0 + (nums ks).length) = ks := by
      unfold nums
      rw [Nat.zero_add, List.length_map, List.take_length]
    rw [e2]
    simp -implicitDefEqProofs only [vSeq, vSet, vDrop, vRet, vRetV, vRetN, vNext, vBreak, vCont, vIfS, vPar, vAsg, vCall, vCallK, vCallB, vCons, vNil, vVar, vPk, vC, vBin, vUn, vCB, vMt, vTest, vTru, vtAnd, vtOr, vtNot, vtTrue, vIf, vAnd, vOr, vNot, vChain, vTup, vLst, vSl, voNone, voSome, viAny, viRg1, viRg2, vFor, vLc, vRaise, DL.mk, Bool.false_and, Bool.true_and, isC, List.getElem?_cons_zero, List.getElem?_cons_succ, List.set_cons_zero, List.set_cons_succ, vO_some, vO_none, if_true, if_false, Bool.false_eq_true, Bool.not_true, Bool.not_false, slV, from1]
    rw [← List.map_drop]
    exact q
theorem tok_eq (x y : Str) : DL.eqV (.str x) (.str y) = some (.bl (decide (x = y))) := veq_s x y
/-- a row of at most 1000 numbers -/
def Sm : Sp → Prop
  | .tk _ => True
  | .call _ ks => ks.length ≤ 900
  | .meth _ _ ks => ks.length ≤ 900
  | .oper _ _ _ => True
theorem cm_drop_len {ks : List Nat} (h : ks.length ≤ 1000) : ((cm ks).drop 1).length ≤ 2000 := by
  rw [List.length_drop, cm_len]; omega
theorem k_parts {s : Sp} (hs : Sm s) (q : Q (.lst ((parts s).map vP))) : V_parts_of [vS s] Q E := by
  unfold V_parts_of vRun v_parts_of
  have s4 : startV 4 [vS s] = [some (.sh (vS s)), none, none, none] := rfl
  rw [s4]
  cases s with
  | tk x =>
    have i0 : ixV (vS (.tk x)) (.int 0) = some (.str "token") := rfl
    have i1 : ixV (vS (.tk x)) (.int 1) = some (.str x) := rfl
    simp -implicitDefEqProofs only [vSeq, vSet, vDrop, vRet, vRetV, vRetN, vNext, vBreak, vCont, vIfS, vPar, vAsg, vCall, vCallK, vCallB, vCons, vNil, vVar, vPk, vC, vBin, vUn, vCB, vMt, vTest, vTru, vtAnd, vtOr, vtNot, vtTrue, vIf, vAnd, vOr, vNot, vChain, vTup, vLst, vSl, voNone, voSome, viAny, viRg1, viRg2, vFor, vLc, vRaise, DL.mk, Bool.false_and, Bool.true_and, isC, List.getElem?_cons_zero, List.getElem?_cons_succ, List.set_cons_zero, List.set_cons_succ, vO_some, vO_none, if_true, if_false, Bool.false_eq_true, Bool.not_true, Bool.not_false, i0, i1, tok_eq, decide_true]
    exact ⟨by show 1 ≤ 16777216; decide, q⟩
  | call n ks =>
    have i0 : ixV (vS (.call n ks)) (.int 0) = some (.str "call") := rfl
    have n1 : decide (Str.ofString "call" = Str.ofString "token") = false := by decide +kernel
    simp -implicitDefEqProofs only [vSeq, vSet, vDrop, vRet, vRetV, vRetN, vNext, vBreak, vCont, vIfS, vPar, vAsg, vCall, vCallK, vCallB, vCons, vNil, vVar, vPk, vC, vBin, vUn, vCB, vMt, vTest, vTru, vtAnd, vtOr, vtNot, vtTrue, vIf, vAnd, vOr, vNot, vChain, vTup, vLst, vSl, voNone, voSome, viAny, viRg1, viRg2, vFor, vLc, vRaise, DL.mk, Bool.false_and, Bool.true_and, isC, List.getElem?_cons_zero, List.getElem?_cons_succ, List.set_cons_zero, List.set_cons_succ, vO_some, vO_none, if_true, if_false, Bool.false_eq_true, Bool.not_true, Bool.not_false, i0, tok_eq, n1]
    show vO (some _) _
    simp -implicitDefEqProofs only [vSeq, vSet, vDrop, vRet, vRetV, vRetN, vNext, vBreak, vCont, vIfS, vPar, vAsg, vCall, vCallK, vCallB, vCons, vNil, vVar, vPk, vC, vBin, vUn, vCB, vMt, vTest, vTru, vtAnd, vtOr, vtNot, vtTrue, vIf, vAnd, vOr, vNot, vChain, vTup, vLst, vSl, voNone, voSome, viAny, viRg1, viRg2, vFor, vLc, vRaise, DL.mk, Bool.false_and, Bool.true_and, isC, List.getElem?_cons_zero, List.getElem?_cons_succ, List.set_cons_zero, List.set_cons_succ, vO_some, vO_none, if_true, if_false, Bool.false_eq_true, Bool.not_true, Bool.not_false, vStar, tok_eq, decide_true, List.length_cons, List.length_nil, Nat.zero_add, true_and]
    refine k_listed (ks := ks) (Nat.le_trans (show ks.length ≤ 900 from hs) (by decide)) ?_
    simp only [listV, vSeq, vSet, vDrop, vRet, vRetV, vRetN, vNext, vBreak, vCont, vIfS, vPar, vAsg, vCall, vCallK, vCallB, vCons, vNil, vVar, vPk, vC, vBin, vUn, vCB, vMt, vTest, vTru, vtAnd, vtOr, vtNot, vtTrue, vIf, vAnd, vOr, vNot, vChain, vTup, vLst, vSl, voNone, voSome, viAny, viRg1, viRg2, vFor, vLc, vRaise, DL.mk, Bool.false_and, Bool.true_and, isC, List.getElem?_cons_zero, List.getElem?_cons_succ, List.set_cons_zero, List.set_cons_succ, vO_some, vO_none, if_true, if_false, Bool.false_eq_true, Bool.not_true, Bool.not_false]
    have hs' : ks.length ≤ 900 := hs
    have e1 : (Vl.str n :: Vl.str "(" :: (((cm ks).drop 1).map vP ++ [Vl.str ")"])) = (parts (.call n ks)).map vP := by
      show _ = (Pt.tk n :: Pt.tk "(" :: ((cm ks).drop 1 ++ [.tk ")"])).map vP
      rw [List.map_cons, List.map_cons, List.map_append]
      rfl
    rw [e1]
    refine ⟨?_, q⟩
    have := cm_drop_len (ks := ks) (by omega)
    simp only [List.length_cons, List.length_append, List.length_map, List.length_nil]
    show _ ≤ 16777216
    omega
  | meth n k ks =>
    have i0 : ixV (vS (.meth n k ks)) (.int 0) = some (.str "method") := rfl
    have n1 : decide (Str.ofString "method" = Str.ofString "token") = false := by decide +kernel
    have n2 : decide (Str.ofString "method" = Str.ofString "call") = false := by decide +kernel
    have j0 : ixV (.tup (nums (k :: ks))) (.int 0) = some (.int (k : Nat)) := at0 _ _
    have sl : slV (.tup (nums (k :: ks))) (some 1) none = some (.tup (nums ks)) := by
      show some (Vl.tup (cutL _ _ _)) = _
      rw [from1]; rfl
    simp -implicitDefEqProofs only [vSeq, vSet, vDrop, vRet, vRetV, vRetN, vNext, vBreak, vCont, vIfS, vPar, vAsg, vCall, vCallK, vCallB, vCons, vNil, vVar, vPk, vC, vBin, vUn, vCB, vMt, vTest, vTru, vtAnd, vtOr, vtNot, vtTrue, vIf, vAnd, vOr, vNot, vChain, vTup, vLst, vSl, voNone, voSome, viAny, viRg1, viRg2, vFor, vLc, vRaise, DL.mk, Bool.false_and, Bool.true_and, isC, List.getElem?_cons_zero, List.getElem?_cons_succ, List.set_cons_zero, List.set_cons_succ, vO_some, vO_none, if_true, if_false, Bool.false_eq_true, Bool.not_true, Bool.not_false, i0, tok_eq, n1]
    show vO (some _) _
    simp -implicitDefEqProofs only [vSeq, vSet, vDrop, vRet, vRetV, vRetN, vNext, vBreak, vCont, vIfS, vPar, vAsg, vCall, vCallK, vCallB, vCons, vNil, vVar, vPk, vC, vBin, vUn, vCB, vMt, vTest, vTru, vtAnd, vtOr, vtNot, vtTrue, vIf, vAnd, vOr, vNot, vChain, vTup, vLst, vSl, voNone, voSome, viAny, viRg1, viRg2, vFor, vLc, vRaise, DL.mk, Bool.false_and, Bool.true_and, isC, List.getElem?_cons_zero, List.getElem?_cons_succ, List.set_cons_zero, List.set_cons_succ, vO_some, vO_none, if_true, if_false, Bool.false_eq_true, Bool.not_true, Bool.not_false, vStar, tok_eq, n2, decide_true, j0, sl, List.length_cons, List.length_nil, Nat.zero_add, true_and]
    refine k_listed (ks := ks) (Nat.le_trans (show ks.length ≤ 900 from hs) (by decide)) ?_
    simp only [listV, vSeq, vSet, vDrop, vRet, vRetV, vRetN, vNext, vBreak, vCont, vIfS, vPar, vAsg, vCall, vCallK, vCallB, vCons, vNil, vVar, vPk, vC, vBin, vUn, vCB, vMt, vTest, vTru, vtAnd, vtOr, vtNot, vtTrue, vIf, vAnd, vOr, vNot, vChain, vTup, vLst, vSl, voNone, voSome, viAny, viRg1, viRg2, vFor, vLc, vRaise, DL.mk, Bool.false_and, Bool.true_and, isC, List.getElem?_cons_zero, List.getElem?_cons_succ, List.set_cons_zero, List.set_cons_succ, vO_some, vO_none, if_true, if_false, Bool.false_eq_true, Bool.not_true, Bool.not_false]
    have hs' : ks.length ≤ 900 := hs
    have e1 : (Vl.int (k : Nat) :: Vl.str "." :: Vl.str n :: Vl.str "(" :: (((cm ks).drop 1).map vP ++ [Vl.str ")"])) = (parts (.meth n k ks)).map vP := by
      show _ = (Pt.ix k :: Pt.tk "." :: Pt.tk n :: Pt.tk "(" :: ((cm ks).drop 1 ++ [.tk ")"])).map vP
      rw [List.map_cons, List.map_cons, List.map_cons, List.map_cons, List.map_append]
      rfl
    rw [e1]
    refine ⟨?_, q⟩
    have := cm_drop_len (ks := ks) (by omega)
    simp only [List.length_cons, List.length_append, List.length_map, List.length_nil]
    show _ ≤ 16777216
    omega
  | oper n i j =>
    have i0 : ixV (vS (.oper n i j)) (.int 0) = some (.str "operator") := rfl
    have n1 : decide (Str.ofString "operator" = Str.ofString "token") = false := by decide +kernel
    have n2 : decide (Str.ofString "operator" = Str.ofString "call") = false := by decide +kernel
    have n3 : decide (Str.ofString "operator" = Str.ofString "method") = false := by decide +kernel
    have j0 : ixV (.tup [.int (i : Nat), .int (j : Nat)]) (.int 0) = some (.int (i : Nat)) := rfl
    have j1 : ixV (.tup [.int (i : Nat), .int (j : Nat)]) (.int 1) = some (.int (j : Nat)) := rfl
    simp -implicitDefEqProofs only [vSeq, vSet, vDrop, vRet, vRetV, vRetN, vNext, vBreak, vCont, vIfS, vPar, vAsg, vCall, vCallK, vCallB, vCons, vNil, vVar, vPk, vC, vBin, vUn, vCB, vMt, vTest, vTru, vtAnd, vtOr, vtNot, vtTrue, vIf, vAnd, vOr, vNot, vChain, vTup, vLst, vSl, voNone, voSome, viAny, viRg1, viRg2, vFor, vLc, vRaise, DL.mk, Bool.false_and, Bool.true_and, isC, List.getElem?_cons_zero, List.getElem?_cons_succ, List.set_cons_zero, List.set_cons_succ, vO_some, vO_none, if_true, if_false, Bool.false_eq_true, Bool.not_true, Bool.not_false, i0, tok_eq, n1]
    show vO (some _) _
    simp -implicitDefEqProofs only [vSeq, vSet, vDrop, vRet, vRetV, vRetN, vNext, vBreak, vCont, vIfS, vPar, vAsg, vCall, vCallK, vCallB, vCons, vNil, vVar, vPk, vC, vBin, vUn, vCB, vMt, vTest, vTru, vtAnd, vtOr, vtNot, vtTrue, vIf, vAnd, vOr, vNot, vChain, vTup, vLst, vSl, voNone, voSome, viAny, viRg1, viRg2, vFor, vLc, vRaise, DL.mk, Bool.false_and, Bool.true_and, isC, List.getElem?_cons_zero, List.getElem?_cons_succ, List.set_cons_zero, List.set_cons_succ, vO_some, vO_none, if_true, if_false, Bool.false_eq_true, Bool.not_true, Bool.not_false, tok_eq, n2, n3, j0, j1]
    exact ⟨by show 5 ≤ 16777216; decide, q⟩
/-! lengths -/
theorem isi_sP (p : Pt) : isiV [vP p, .raw (.ty "str")] = some (.bl (match p with | .tk _ => true | .ix _ => false)) := by cases p <;> rfl
def oneP (L : List Nat) : Pt → Nat
  | .tk _ => 1
  | .ix k => L.getD k 0
theorem lenP_sum (L : List Nat) : ∀ ps : List Pt, ((ps.map fun p => (oneP L p : Int)).sum) = (lenP L ps : Int)
  | [] => rfl
  | .tk x :: r => by
    rw [List.map_cons, List.sum_cons, lenP_sum L r]
    show (1 : Int) + _ = ((1 + lenP L r : Nat) : Int)
    omega
  | .ix k :: r => by
    rw [List.map_cons, List.sum_cons, lenP_sum L r]
    show ((L.getD k 0 : Nat) : Int) + _ = ((L.getD k 0 + lenP L r : Nat) : Int)
    omega
theorem ints_map (f : Pt → Int) : ∀ ps : List Pt, intsOf (ps.map fun p => Vl.int (f p)) = some (ps.map f)
  | [] => rfl
  | p :: ps => by
    show (intsOf (ps.map fun p => Vl.int (f p))).map (f p :: ·) = _
    rw [ints_map f ps]; rfl
theorem at_ints {L : List Nat} {k : Nat} (h : k < L.length) : ixV (.lst (nums L)) (.int (k : Nat)) = some (.int (L.getD k 0 : Nat)) := by
  show atI (nums L) (k : Int) = _
  unfold atI ixN nums
  rw [if_pos (by omega), if_pos (by rw [List.length_map]; omega)]
  show (List.map _ L)[(k : Int).toNat]? = _
  rw [Int.toNat_natCast, List.getElem?_map, List.getD_eq_getElem?_getD, List.getElem?_eq_getElem h]
  rfl
theorem k_length_in {pv : Vl} {ps : List Pt} {L : List Nat} (hp : itemsV pv = some (ps.map vP)) (hl : Lo L.length ps) (hn : ps.length < 100000) (q : Q (.int (lenP L ps : Nat))) : V_length_in [pv, .lst (nums L)] Q E := by
  unfold V_length_in vRun v_length_in
  have s3 : startV 3 [pv, .lst (nums L)] = [some (.sh pv), some (.sh (.lst (nums L))), none] := rfl
  simp -implicitDefEqProofs only [s3, vSeq, vSet, vDrop, vRet, vRetV, vRetN, vNext, vBreak, vCont, vIfS, vPar, vAsg, vCall, vCallK, vCallB, vCons, vNil, vVar, vPk, vC, vBin, vUn, vCB, vMt, vTest, vTru, vtAnd, vtOr, vtNot, vtTrue, vIf, vAnd, vOr, vNot, vChain, vTup, vLst, vSl, voNone, voSome, viAny, viRg1, viRg2, vFor, vLc, vRaise, DL.mk, Bool.false_and, Bool.true_and, isC, List.getElem?_cons_zero, List.getElem?_cons_succ, List.set_cons_zero, List.set_cons_succ, vO_some, vO_none, if_true, if_false, Bool.false_eq_true, Bool.not_true, Bool.not_false, hp]
  refine ⟨by rw [List.length_map]; omega, lc_map (kb := fun _ => true) (g := fun v => match v with | .int k => .int (L.getD k.toNat 0 : Nat) | _ => .int 1) ?_ ?_⟩
  · rw [List.filter_eq_self.mpr fun _ _ => rfl, List.nil_append, List.map_map]
    have e : (ps.map ((fun v => match v with | .int k => Vl.int (L.getD k.toNat 0 : Nat) | _ => .int 1) ∘ vP)) = ps.map fun p => Vl.int (oneP L p : Int) := by
      refine List.map_congr_left fun p _ => ?_
      cases p with
      | tk x => rfl
      | ix k => rfl
    rw [e]
    show vO ((intsOf (ps.map fun p => Vl.int (oneP L p : Int))).map fun ns => Vl.int ns.sum) Q
    rw [ints_map fun p => (oneP L p : Int)]
    show Q (.int _)
    rw [lenP_sum]
    exact q
  · intro v hv Q1 Q2 h _
    obtain ⟨p, hm, rfl⟩ := List.mem_map.mp hv
    simp only [Tg.putV, vSeq, vSet, vDrop, vRet, vRetV, vRetN, vNext, vBreak, vCont, vIfS, vPar, vAsg, vCall, vCallK, vCallB, vCons, vNil, vVar, vPk, vC, vBin, vUn, vCB, vMt, vTest, vTru, vtAnd, vtOr, vtNot, vtTrue, vIf, vAnd, vOr, vNot, vChain, vTup, vLst, vSl, voNone, voSome, viAny, viRg1, viRg2, vFor, vLc, vRaise, DL.mk, Bool.false_and, Bool.true_and, isC, List.getElem?_cons_zero, List.getElem?_cons_succ, List.set_cons_zero, List.set_cons_succ, vO_some, vO_none, if_true, if_false, Bool.false_eq_true, Bool.not_true, Bool.not_false, wipeV, isi_sP, truV]
    cases p with
    | tk x =>
      simp only [if_true]
      exact h rfl
    | ix k =>
      simp only [Bool.false_eq_true, if_false, vP, at_ints (hl k hm)]
      exact h rfl
end
end K43

set_option maxHeartbeats 1000000
/-! lengths of rows; what the law writes by hand -/
namespace K43
open PySem L2 DL
/-- rows as they are drawn -/
structure Rw (rows : List Sp) : Prop where
  wf : Wf rows
  sm : ∀ s ∈ rows, Sm s
  n : rows.length ≤ 1000
/-- a lot of parts -/
structure Lt (n : Nat) (lot : List Pt) : Prop where
  lo : Lo n lot
  n : lot.length ≤ 1000
def vR (rows : List Sp) : Vl := .tup (rows.map vS)
def vL (lot : List Pt) : Vl := .tup (lot.map vP)
theorem lens_snoc (T : List (List Str)) (x : List Str) : lens (T ++ [x]) = lens T ++ [x.length] := by unfold lens; rw [List.map_append]; rfl
theorem nums_snoc (L : List Nat) (k : Nat) : nums (L ++ [k]) = nums L ++ [.int (k : Nat)] := by unfold nums; rw [List.map_append]; rfl
theorem parts_len {s : Sp} (h : Sm s) : (parts s).length ≤ 2010 := by
  cases s with
  | tk x => show 1 ≤ 2010; decide
  | call n ks =>
    have h : ks.length ≤ 900 := h
    have := cm_drop_len (ks := ks) (by omega)
    show (_ :: _ :: ((cm ks).drop 1 ++ [_])).length ≤ _
    simp only [List.length_cons, List.length_append, List.length_nil]
    omega
  | meth n k ks =>
    have h : ks.length ≤ 900 := h
    have := cm_drop_len (ks := ks) (by omega)
    show (_ :: _ :: _ :: _ :: ((cm ks).drop 1 ++ [_])).length ≤ _
    simp only [List.length_cons, List.length_append, List.length_nil]
    omega
  | oper n i j => show 5 ≤ 2010; decide
section
variable {Q : Vl → Prop} {E : VX → Prop}
def lenB : VSM := vApp 2 (vCallB 2 V_length_in (vCons (vCall 1 V_parts_of (vCons (vVar 3) (vNil))) (vCons (vPk 2) (vNil))))
theorem k_length_of {rows : List Sp} {lot : List Pt} (hr : Rw rows) (hl : Lt rows.length lot) (q : Q (.int ((exp (tab rows) lot).length : Nat))) : V_length_of [vR rows, vL lot] Q E := by
  unfold V_length_of vRun v_length_of
  have s4 : startV 4 [vR rows, vL lot] = [some (.sh (vR rows)), some (.sh (vL lot)), none, none] := rfl
  have bdy : vApp 2 (vCallB 2 V_length_in (vCons (vCall 1 V_parts_of (vCons (vVar 3) (vNil))) (vCons (vPk 2) (vNil)))) = lenB := rfl
  have hn := hr.n
  have it : itemsV (vR rows) = some (rows.map vS) := rfl
  rw [bdy]
  simp -implicitDefEqProofs only [s4, vSeq, vSet, vDrop, vRet, vRetV, vRetN, vNext, vBreak, vCont, vIfS, vPar, vAsg, vCall, vCallK, vCallB, vCons, vNil, vVar, vPk, vC, vBin, vUn, vCB, vMt, vTest, vTru, vtAnd, vtOr, vtNot, vtTrue, vIf, vAnd, vOr, vNot, vChain, vTup, vLst, vSl, voNone, voSome, viAny, viRg1, viRg2, vFor, vLc, vRaise, DL.mk, Bool.false_and, Bool.true_and, isC, List.getElem?_cons_zero, List.getElem?_cons_succ, List.set_cons_zero, List.set_cons_succ, vO_some, vO_none, if_true, if_false, Bool.false_eq_true, Bool.not_true, Bool.not_false, it]
  refine ⟨Nat.zero_le _, by rw [List.length_map]; omega, ?_⟩
  refine loop_at (J := fun i e => ∃ o, e = [some (.sh (vR rows)), some (.sh (vL lot)), some (.ow (.lst (nums (lens (tab (rows.take i)))))), o]) _ 0 ⟨none, rfl⟩ (fun j v env K hj hJ hK => ?_) fun e he => ?_
  · rw [List.getElem?_map] at hj
    obtain ⟨s, hs, rfl⟩ := Option.map_eq_some_iff.mp hj
    rw [Nat.zero_add] at hJ
    obtain ⟨o, rfl⟩ := hJ
    have hj' : j < rows.length := (List.getElem?_eq_some_iff.mp hs).1
    have hsm := hr.sm s (List.mem_of_getElem? hs)
    unfold lenB
    simp -implicitDefEqProofs only [Tg.putV, vSeq, vSet, vDrop, vRet, vRetV, vRetN, vNext, vBreak, vCont, vIfS, vPar, vAsg, vCall, vCallK, vCallB, vCons, vNil, vVar, vPk, vC, vBin, vUn, vCB, vMt, vTest, vTru, vtAnd, vtOr, vtNot, vtTrue, vIf, vAnd, vOr, vNot, vChain, vTup, vLst, vSl, voNone, voSome, viAny, viRg1, viRg2, vFor, vLc, vRaise, DL.mk, Bool.false_and, Bool.true_and, isC, List.getElem?_cons_zero, List.getElem?_cons_succ, List.set_cons_zero, List.set_cons_succ, vO_some, vO_none, if_true, if_false, Bool.false_eq_true, Bool.not_true, Bool.not_false, vApp, ownL, List.length_cons, List.length_nil, Nat.zero_add, true_and, Nat.reduceAdd]
    refine k_parts hsm ?_
    refine k_length_in (ps := parts s) rfl ?_ (by have := parts_len hsm; omega) ⟨rfl, ?_, ?_⟩
    · have e : (lens (tab (rows.take j))).length = j := by
        unfold lens
        rw [List.length_map, tab_len, List.length_take]; omega
      rw [e]
      exact hr.wf j s hs
    · unfold nums lens
      rw [List.length_map, List.length_map, tab_len, List.length_take]
      show _ < 16777216
      omega
    · refine hK _ ⟨some (.sh (vS s)), ?_⟩
      rw [Nat.zero_add, take_snoc hs, tab_snoc, lens_snoc, nums_snoc, lenP_exp]
  · obtain ⟨o, rfl⟩ := he
    have e2 : rows.take (0 + (rows.map vS).length) = rows := by rw [Nat.zero_add, List.length_map, List.take_length]
    rw [e2]
    simp -implicitDefEqProofs only [vSeq, vSet, vDrop, vRet, vRetV, vRetN, vNext, vBreak, vCont, vIfS, vPar, vAsg, vCall, vCallK, vCallB, vCons, vNil, vVar, vPk, vC, vBin, vUn, vCB, vMt, vTest, vTru, vtAnd, vtOr, vtNot, vtTrue, vIf, vAnd, vOr, vNot, vChain, vTup, vLst, vSl, voNone, voSome, viAny, viRg1, viRg2, vFor, vLc, vRaise, DL.mk, Bool.false_and, Bool.true_and, isC, List.getElem?_cons_zero, List.getElem?_cons_succ, List.set_cons_zero, List.set_cons_succ, vO_some, vO_none, if_true, if_false, Bool.false_eq_true, Bool.not_true, Bool.not_false, List.length_cons, List.length_nil, Nat.zero_add, true_and, Nat.reduceAdd]
    refine k_length_in (ps := lot) rfl ?_ (by have := hl.n; omega) ⟨rfl, ?_⟩
    · unfold lens
      rw [List.length_map, tab_len]
      exact hl.lo
    · rw [lenP_exp]; exact q
/-! by hand -/
theorem btw_snoc : ∀ {l : List (List Str)} {x : List Str}, l ≠ [] → btw (l ++ [x]) = btw l ++ Str.ofString "," :: x
  | [], x, h => (h rfl).elim
  | [y], x, _ => rfl
  | y :: z :: r, x, _ => by
    have ih := btw_snoc (l := z :: r) (x := x) (by simp)
    show y ++ Str.ofString "," :: btw ((z :: r) ++ [x]) = (y ++ Str.ofString "," :: btw (z :: r)) ++ Str.ofString "," :: x
    rw [ih]
    simp
theorem btw_len : ∀ l : List (List Str), (btw l).length ≤ (l.map (·.length)).sum + l.length
  | [] => by simp [btw]
  | [x] => by simp [btw]
  | x :: y :: r => by
    have ih := btw_len (y :: r)
    show (x ++ Str.ofString "," :: btw (y :: r)).length ≤ _
    rw [List.length_append, List.length_cons]
    simp only [List.map_cons, List.sum_cons, List.length_cons] at ih ⊢
    omega
theorem mem_le_sum : ∀ {l : List (List Str)} {x : List Str}, x ∈ l → x.length ≤ (l.map (·.length)).sum
  | [], _, h => nomatch h
  | y :: l, x, h => by
    rw [List.map_cons, List.sum_cons]
    rcases List.mem_cons.mp h with rfl | h
    · omega
    · have := mem_le_sum h; omega
theorem sum_take_le (l : List (List Str)) (i : Nat) : ((l.take i).map (·.length)).sum ≤ (l.map (·.length)).sum := by
  conv => rhs; rw [← List.take_append_drop i l]
  rw [List.map_append, List.sum_append]
  omega
theorem vadd_lS (a b : List Str) (h : a.length + b.length ≤ sizeLine) : addV (lS a) (lS b) = some (lS (a ++ b)) := by
  unfold lS
  rw [vadd_l (by rw [List.length_map, List.length_map]; exact h), List.map_append]
def btwB : VSM := vSet false 1 (vBin addV (vBin addV (vPk 1) (vBin mulV (vLst (vCons (vC (.str ",")) (vNil))) (vCB intOfV (vCons (vBin gtV (vPk 2) (vC (.int 0))) (vNil))))) (vPk 3))
theorem k_between {ls : List (List Str)} (hn : ls.length ≤ 1000) (hs : (ls.map (·.length)).sum ≤ 1000000) (q : Q (lS (btw ls))) : V__law_between [.lst (ls.map lS)] Q E := by
  unfold V__law_between vRun v__law_between
  have s4 : startV 4 [.lst (ls.map lS)] = [some (.sh (.lst (ls.map lS))), none, none, none] := rfl
  have bdy : vSet false 1 (vBin addV (vBin addV (vPk 1) (vBin mulV (vLst (vCons (vC (.str ",")) (vNil))) (vCB intOfV (vCons (vBin gtV (vPk 2) (vC (.int 0))) (vNil))))) (vPk 3)) = btwB := rfl
  rw [bdy]
  simp -implicitDefEqProofs only [s4, vSeq, vSet, vDrop, vRet, vRetV, vRetN, vNext, vBreak, vCont, vIfS, vPar, vAsg, vCall, vCallK, vCallB, vCons, vNil, vVar, vPk, vC, vBin, vUn, vCB, vMt, vTest, vTru, vtAnd, vtOr, vtNot, vtTrue, vIf, vAnd, vOr, vNot, vChain, vTup, vLst, vSl, voNone, voSome, viAny, viRg1, viRg2, vFor, vLc, vRaise, DL.mk, Bool.false_and, Bool.true_and, isC, List.getElem?_cons_zero, List.getElem?_cons_succ, List.set_cons_zero, List.set_cons_succ, vO_some, vO_none, if_true, if_false, Bool.false_eq_true, Bool.not_true, Bool.not_false, viEn]
  refine ⟨Nat.zero_le _, by unfold enumV; rw [List.length_map, List.length_zipIdx, List.length_map]; omega, ?_⟩
  refine loop_at (J := fun i e => ∃ o p, e = [some (.sh (.lst (ls.map lS))), some (.sh (lS (btw (ls.take i)))), o, p]) _ 0 ⟨none, none, rfl⟩ (fun j v env K hj hJ hK => ?_) fun e he => ?_
  · unfold enumV at hj
    rw [List.getElem?_map, List.getElem?_zipIdx, List.getElem?_map] at hj
    obtain ⟨x, hx, rfl⟩ : ∃ x, ls[j]? = some x ∧ v = .tup [.int (j : Nat), lS x] := by
      cases h : ls[j]? with
      | none => rw [h] at hj; cases hj
      | some x =>
        rw [h] at hj
        have := Option.some.inj hj
        exact ⟨x, rfl, by rw [← this]; simp⟩
    rw [Nat.zero_add] at hJ
    obtain ⟨o, p, rfl⟩ := hJ
    have hj' : j < ls.length := (List.getElem?_eq_some_iff.mp hx).1
    have l1 : (btw (ls.take j)).length ≤ 1001000 := by
      have := btw_len (ls.take j)
      have := sum_take_le ls j
      have : (ls.take j).length ≤ j := by rw [List.length_take]; omega
      omega
    have l2 : x.length ≤ 1000000 := by
      have := mem_le_sum (List.mem_of_getElem? hx)
      omega
    unfold btwB
    have g : gtV (.int (j : Nat)) (.int 0) = some (.bl (decide ((0 : Int) < (j : Nat)))) := rfl
    simp -implicitDefEqProofs only [Tg.putV, Tg.putVs, Option.bind_some, vSeq, vSet, vDrop, vRet, vRetV, vRetN, vNext, vBreak, vCont, vIfS, vPar, vAsg, vCall, vCallK, vCallB, vCons, vNil, vVar, vPk, vC, vBin, vUn, vCB, vMt, vTest, vTru, vtAnd, vtOr, vtNot, vtTrue, vIf, vAnd, vOr, vNot, vChain, vTup, vLst, vSl, voNone, voSome, viAny, viRg1, viRg2, vFor, vLc, vRaise, DL.mk, Bool.false_and, Bool.true_and, isC, List.getElem?_cons_zero, List.getElem?_cons_succ, List.set_cons_zero, List.set_cons_succ, vO_some, vO_none, if_true, if_false, Bool.false_eq_true, Bool.not_true, Bool.not_false, g]
    refine ⟨by show 1 ≤ 16777216; decide, ?_⟩
    by_cases h0 : j = 0
    · subst h0
      have i0 : intOfV [.bl (decide ((0 : Int) < ((0 : Nat) : Int)))] = some (.int 0) := rfl
      have m0 : mulV (.lst [.str (Str.ofString ",")]) (.int 0) = some (lS []) := rfl
      rw [i0]
      simp only [vO_some]
      rw [m0]
      simp only [vO_some]
      rw [vadd_lS _ _ (by rw [List.length_nil]; show _ ≤ 16777216; omega)]
      simp only [vO_some]
      rw [vadd_lS _ _ (by rw [List.append_nil]; show _ ≤ 16777216; omega)]
      simp only [vO_some]
      refine hK _ ⟨some (.sh (.int ((0 : Nat) : Int))), some (.sh (lS x)), ?_⟩
      rw [Nat.zero_add, take_snoc hx]
      rfl
    · have i0 : intOfV [.bl (decide ((0 : Int) < (j : Nat)))] = some (.int 1) := by
        rw [decide_eq_true (show (0 : Int) < (j : Nat) by omega)]; rfl
      have m0 : mulV (.lst [.str (Str.ofString ",")]) (.int 1) = some (lS [Str.ofString ","]) := rfl
      rw [i0]
      simp only [vO_some]
      rw [m0]
      simp only [vO_some]
      rw [vadd_lS _ _ (by rw [List.length_cons, List.length_nil]; show _ ≤ 16777216; omega)]
      simp only [vO_some]
      rw [vadd_lS _ _ (by rw [List.length_append, List.length_cons, List.length_nil]; show _ ≤ 16777216; omega)]
      simp only [vO_some]
      refine hK _ ⟨some (.sh (.int (j : Nat))), some (.sh (lS x)), ?_⟩
      rw [Nat.zero_add, take_snoc hx, btw_snoc (fun z => by
        have : (ls.take j).length = 0 := by rw [z]; rfl
        rw [List.length_take] at this
        omega), List.append_assoc]
      rfl
  · obtain ⟨o, p, rfl⟩ := he
    have e2 : ls.take (0 + (enumV (ls.map lS)).length) = ls := by
      unfold enumV
      rw [Nat.zero_add, List.length_map, List.length_zipIdx, List.length_map, List.take_length]
    rw [e2]
    simp -implicitDefEqProofs only [vSeq, vSet, vDrop, vRet, vRetV, vRetN, vNext, vBreak, vCont, vIfS, vPar, vAsg, vCall, vCallK, vCallB, vCons, vNil, vVar, vPk, vC, vBin, vUn, vCB, vMt, vTest, vTru, vtAnd, vtOr, vtNot, vtTrue, vIf, vAnd, vOr, vNot, vChain, vTup, vLst, vSl, voNone, voSome, viAny, viRg1, viRg2, vFor, vLc, vRaise, DL.mk, Bool.false_and, Bool.true_and, isC, List.getElem?_cons_zero, List.getElem?_cons_succ, List.set_cons_zero, List.set_cons_succ, vO_some, vO_none, if_true, if_false, Bool.false_eq_true, Bool.not_true, Bool.not_false]
    exact ⟨(fun z => nomatch z), q⟩
end
end K43

set_option maxHeartbeats 1000000
/-! the law's own table of tokens -/
namespace K43
open PySem L2 DL
/-- no row is longer than 600 tokens -/
def Bd (rows : List Sp) : Prop := ∀ x ∈ tab rows, x.length ≤ 600
theorem tab_take_mem {rows : List Sp} {m : Nat} {x : List Str} (h : x ∈ tab (rows.take m)) : x ∈ tab rows := (tab_pre_all rows m).subset h
theorem getD_le {rows : List Sp} (hb : Bd rows) {m : Nat} (k : Nat) : ((tab (rows.take m)).getD k []).length ≤ 600 := by
  rw [List.getD_eq_getElem?_getD]
  cases h : (tab (rows.take m))[k]? with
  | none => simp
  | some x => exact hb x (tab_take_mem (List.mem_of_getElem? h))
theorem sum_600 : ∀ {l : List (List Str)}, (∀ x ∈ l, x.length ≤ 600) → (l.map (·.length)).sum ≤ 600 * l.length
  | [], _ => by simp
  | x :: l, h => by
    have h1 := sum_600 (l := l) fun y hy => h y (List.mem_cons_of_mem _ hy)
    have h2 := h x List.mem_cons_self
    rw [List.map_cons, List.sum_cons, List.length_cons]
    omega
theorem at_lS {T : List (List Str)} {k : Nat} (h : k < T.length) : ixV (.lst (T.map lS)) (.int (k : Nat)) = some (lS (T.getD k [])) := by
  show atI (T.map lS) (k : Int) = _
  unfold atI ixN
  rw [if_pos (by omega), if_pos (by rw [List.length_map]; omega)]
  show (T.map lS)[(k : Int).toNat]? = _
  rw [Int.toNat_natCast, List.getElem?_map, List.getD_eq_getElem?_getD, List.getElem?_eq_getElem h]
  rfl
theorem ix_cm : ∀ {ks : List Nat} {k : Nat}, k ∈ ks → Pt.ix k ∈ cm ks
  | [], _, h => nomatch h
  | k0 :: r, k, h => by
    show Pt.ix k ∈ (Pt.tk "," :: Pt.ix k0 :: cm r)
    rcases List.mem_cons.mp h with rfl | h
    · exact List.mem_cons_of_mem _ List.mem_cons_self
    · exact List.mem_cons_of_mem _ (List.mem_cons_of_mem _ (ix_cm h))
theorem ix_drop {ks : List Nat} {k : Nat} (h : k ∈ ks) : Pt.ix k ∈ (cm ks).drop 1 := by
  cases ks with
  | nil => cases h
  | cons k0 r =>
    show Pt.ix k ∈ (Pt.ix k0 :: cm r)
    rcases List.mem_cons.mp h with rfl | h
    · exact List.mem_cons_self
    · exact List.mem_cons_of_mem _ (ix_cm h)
theorem exp_call (T : List (List Str)) (n : Str) (ks : List Nat) : exp T (parts (.call n ks)) = [n, Str.ofString "("] ++ btw (ks.map fun k => T.getD k []) ++ [Str.ofString ")"] := by
  show n :: Str.ofString "(" :: exp T ((cm ks).drop 1 ++ [.tk ")"]) = _
  rw [exp_app, exp_cm]
  rfl
theorem exp_meth (T : List (List Str)) (n : Str) (k : Nat) (ks : List Nat) : exp T (parts (.meth n k ks)) = T.getD k [] ++ [Str.ofString ".", n, Str.ofString "("] ++ btw (ks.map fun k => T.getD k []) ++ [Str.ofString ")"] := by
  show T.getD k [] ++ (Str.ofString "." :: n :: Str.ofString "(" :: exp T ((cm ks).drop 1 ++ [.tk ")"])) = _
  rw [exp_app, exp_cm]
  show T.getD k [] ++ ([Str.ofString ".", n, Str.ofString "("] ++ (btw _ ++ [Str.ofString ")"])) = _
  simp only [List.append_assoc]
theorem exp_oper (T : List (List Str)) (s : Str) (i j : Nat) : exp T (parts (.oper s i j)) = [Str.ofString "("] ++ T.getD i [] ++ [s] ++ T.getD j [] ++ [Str.ofString ")"] := by
  show Str.ofString "(" :: (T.getD i [] ++ (s :: (T.getD j [] ++ [Str.ofString ")"]))) = _
  simp
theorem btw_600 {T : List (List Str)} {ks : List Nat} (h : ∀ k, (T.getD k []).length ≤ 600) (hn : ks.length ≤ 900) : ((ks.map fun k => T.getD k []).map (·.length)).sum ≤ 540000 ∧ (btw (ks.map fun k => T.getD k [])).length ≤ 540900 := by
  have h1 := sum_600 (l := ks.map fun k => T.getD k []) fun x hx => by
    obtain ⟨k, _, rfl⟩ := List.mem_map.mp hx
    exact h k
  have h2 := btw_len (ks.map fun k => T.getD k [])
  rw [List.length_map] at h1 h2
  omega
theorem lists_eq (T : List (List Str)) (ks : List Nat) : (ks.map fun k => lS (T.getD k [])) = (ks.map fun k => T.getD k []).map lS := by rw [List.map_map]; rfl
def wrB : VSM := vSeq (vIfS (vTest (vBin eqV (vBin ixV (vPk 2) (vC (.int 0))) (vC (.str "token")))) (vSeq (vApp 1 (vLst (vCons (vBin ixV (vPk 2) (vC (.int 1))) (vNil))))
    (vCont)) (vNext))
    (vSeq (vSet false 3 (vLc (viAny (vBin ixV (vPk 2) (vC (.int 2)))) (.nm 4) (vtTrue) (vBin ixV (vPk 1) (vPk 4)) [4]))
    (vIfS (vTest (vBin eqV (vBin ixV (vPk 2) (vC (.int 0))) (vC (.str "operator")))) (vApp 1 (vBin addV (vBin addV (vBin addV (vBin addV (vLst (vCons (vC (.str "(")) (vNil))) (vBin ixV (vPk 3) (vC (.int 0)))) (vLst (vCons (vBin ixV (vPk 2) (vC (.int 1))) (vNil)))) (vBin ixV (vPk 3) (vC (.int 1)))) (vLst (vCons (vC (.str ")")) (vNil))))) (vIfS (vTest (vBin eqV (vBin ixV (vPk 2) (vC (.int 0))) (vC (.str "call")))) (vApp 1 (vBin addV (vBin addV (vLst (vCons (vBin ixV (vPk 2) (vC (.int 1))) (vCons (vC (.str "(")) (vNil)))) (vCall 1 V__law_between (vCons (vVar 3) (vNil)))) (vLst (vCons (vC (.str ")")) (vNil))))) (vApp 1 (vBin addV (vBin addV (vBin addV (vBin ixV (vPk 3) (vC (.int 0))) (vLst (vCons (vC (.str ".")) (vCons (vBin ixV (vPk 2) (vC (.int 1))) (vCons (vC (.str "(")) (vNil)))))) (vCall 1 V__law_between (vCons (vSl (vPk 3) (voSome (vC (.int 1))) (voNone)) (vNil)))) (vLst (vCons (vC (.str ")")) (vNil))))))))
section
variable {Q : Vl → Prop} {E : VX → Prop}
/-- the lists of the rows that a step names -/
theorem lc_rows {T : List (List Str)} {ks : List Nat} {a c d e : Option VS} {Q : List Vl → Prop} (hk : ∀ k ∈ ks, k < T.length) (q : Q (ks.map fun k => lS (T.getD k []))) :
    vLcG (.nm 4) vtTrue (vBin ixV (vPk 1) (vPk 4)) [a, some (.ow (.lst (T.map lS))), c, d, e] (nums ks) [] Q := by
  refine lc_map (kb := fun _ => true) (g := fun v => match v with | .int k => lS (T.getD k.toNat []) | _ => .non) ?_ ?_
  · rw [List.filter_eq_self.mpr fun _ _ => rfl, List.nil_append]
    unfold nums
    rw [List.map_map]
    exact q
  · intro v hv Q1 Q2 h _
    unfold nums at hv
    obtain ⟨k, hm, rfl⟩ := List.mem_map.mp hv
    simp -implicitDefEqProofs only [Tg.putV, vSeq, vSet, vDrop, vRet, vRetV, vRetN, vNext, vBreak, vCont, vIfS, vPar, vAsg, vCall, vCallK, vCallB, vCons, vNil, vVar, vPk, vC, vBin, vUn, vCB, vMt, vTest, vTru, vtAnd, vtOr, vtNot, vtTrue, vIf, vAnd, vOr, vNot, vChain, vTup, vLst, vSl, voNone, voSome, viAny, viRg1, viRg2, vFor, vLc, vRaise, DL.mk, Bool.false_and, Bool.true_and, isC, List.getElem?_cons_zero, List.getElem?_cons_succ, List.set_cons_zero, List.set_cons_succ, vO_some, vO_none, if_true, if_false, Bool.false_eq_true, Bool.not_true, Bool.not_false, at_lS (hk k hm)]
    exact h rfl
theorem k_wrB {rows : List Sp} {j : Nat} {s : Sp} {a o3 o4 : Option VS} {P : VP} {K : VEnv → Prop} (hr : Rw rows) (hb : Bd rows) (hs : rows[j]? = some s) (hc : P.ct = K) (hx : P.nx = K)
    (h : ∀ x y, K [a, some (.ow (.lst ((tab (rows.take (j + 1))).map lS))), some (.sh (vS s)), x, y]) :
    wrB [a, some (.ow (.lst ((tab (rows.take j)).map lS))), some (.sh (vS s)), o3, o4] P := by
  have hj : j < rows.length := (List.getElem?_eq_some_iff.mp hs).1
  have tl : (tab (rows.take j)).length = j := by rw [tab_len, List.length_take]; omega
  have hn := hr.n
  have few : ((tab (rows.take j)).map lS).length < sizeLine := by rw [List.length_map, tl]; show _ < 16777216; omega
  have hT : (tab (rows.take (j + 1))).map lS = (tab (rows.take j)).map lS ++ [lS (exp (tab (rows.take j)) (parts s))] := by
    rw [take_snoc hs, tab_snoc, List.map_append]; rfl
  have wf := hr.wf j s hs
  have sm := hr.sm s (List.mem_of_getElem? hs)
  obtain ⟨T, eT⟩ : ∃ T, T = tab (rows.take j) := ⟨_, rfl⟩
  have g6 : ∀ k, (T.getD k []).length ≤ 600 := fun k => by rw [eT]; exact getD_le hb k
  rw [← eT] at hT few tl ⊢
  have put : ∀ (x y : Option VS), K [a, some (.ow (.lst (T.map lS ++ [lS (exp T (parts s))]))), some (.sh (vS s)), x, y] := fun x y => by rw [← hT]; exact h x y
  unfold wrB
  cases s with
  | tk x =>
    have i0 : ixV (vS (.tk x)) (.int 0) = some (.str "token") := rfl
    have i1 : ixV (vS (.tk x)) (.int 1) = some (.str x) := rfl
    simp -implicitDefEqProofs only [vSeq, vSet, vDrop, vRet, vRetV, vRetN, vNext, vBreak, vCont, vIfS, vPar, vAsg, vCall, vCallK, vCallB, vCons, vNil, vVar, vPk, vC, vBin, vUn, vCB, vMt, vTest, vTru, vtAnd, vtOr, vtNot, vtTrue, vIf, vAnd, vOr, vNot, vChain, vTup, vLst, vSl, voNone, voSome, viAny, viRg1, viRg2, vFor, vLc, vRaise, DL.mk, Bool.false_and, Bool.true_and, isC, List.getElem?_cons_zero, List.getElem?_cons_succ, List.set_cons_zero, List.set_cons_succ, vO_some, vO_none, if_true, if_false, Bool.false_eq_true, Bool.not_true, Bool.not_false, i0, i1, tok_eq, decide_true, vApp, ownL]
    refine ⟨by show 1 ≤ 16777216; decide, few, ?_⟩
    rw [hc]
    exact put _ _
  | call n ks =>
    have i0 : ixV (vS (.call n ks)) (.int 0) = some (.str "call") := rfl
    have i1 : ixV (vS (.call n ks)) (.int 1) = some (.str n) := rfl
    have i2 : ixV (vS (.call n ks)) (.int 2) = some (.tup (nums ks)) := rfl
    have n1 : decide (Str.ofString "call" = Str.ofString "token") = false := by decide +kernel
    have n2 : decide (Str.ofString "call" = Str.ofString "operator") = false := by decide +kernel
    have sm : ks.length ≤ 900 := sm
    have hk : ∀ k ∈ ks, k < T.length := fun k hk => by
      rw [tl]
      exact wf k (List.mem_cons_of_mem _ (List.mem_cons_of_mem _ (List.mem_append_left _ (ix_drop hk))))
    simp -implicitDefEqProofs only [vSeq, vSet, vDrop, vRet, vRetV, vRetN, vNext, vBreak, vCont, vIfS, vPar, vAsg, vCall, vCallK, vCallB, vCons, vNil, vVar, vPk, vC, vBin, vUn, vCB, vMt, vTest, vTru, vtAnd, vtOr, vtNot, vtTrue, vIf, vAnd, vOr, vNot, vChain, vTup, vLst, vSl, voNone, voSome, viAny, viRg1, viRg2, vFor, vLc, vRaise, DL.mk, Bool.false_and, Bool.true_and, isC, List.getElem?_cons_zero, List.getElem?_cons_succ, List.set_cons_zero, List.set_cons_succ, vO_some, vO_none, if_true, if_false, Bool.false_eq_true, Bool.not_true, Bool.not_false, i0, i1, i2, tok_eq, n1, itemsV, wipeV]
    refine ⟨by unfold nums; rw [List.length_map]; omega, lc_rows hk ?_⟩
    simp -implicitDefEqProofs only [vSeq, vSet, vDrop, vRet, vRetV, vRetN, vNext, vBreak, vCont, vIfS, vPar, vAsg, vCall, vCallK, vCallB, vCons, vNil, vVar, vPk, vC, vBin, vUn, vCB, vMt, vTest, vTru, vtAnd, vtOr, vtNot, vtTrue, vIf, vAnd, vOr, vNot, vChain, vTup, vLst, vSl, voNone, voSome, viAny, viRg1, viRg2, vFor, vLc, vRaise, DL.mk, Bool.false_and, Bool.true_and, isC, List.getElem?_cons_zero, List.getElem?_cons_succ, List.set_cons_zero, List.set_cons_succ, vO_some, vO_none, if_true, if_false, Bool.false_eq_true, Bool.not_true, Bool.not_false, i0, i1, tok_eq, n2, decide_true, vApp, ownL, List.length_cons, List.length_nil, Nat.zero_add, true_and]
    obtain ⟨b1, b2⟩ := btw_600 (ks := ks) g6 sm
    refine ⟨by show 2 ≤ 16777216; decide, ?_⟩
    rw [lists_eq]
    refine k_between (by rw [List.length_map]; omega) (by omega) ?_
    have a1 : addV (.lst [.str n, .str (Str.ofString "(")]) (lS (btw (ks.map fun k => T.getD k []))) = some (lS ([n, Str.ofString "("] ++ btw (ks.map fun k => T.getD k []))) := vadd_lS [n, Str.ofString "("] _ (by show 2 + _ ≤ 16777216; omega)
    have a2 : addV (lS ([n, Str.ofString "("] ++ btw (ks.map fun k => T.getD k []))) (.lst [.str (Str.ofString ")")]) = some (lS (exp T (parts (.call n ks)))) := by
      rw [exp_call]
      exact vadd_lS _ [Str.ofString ")"] (by rw [List.length_append]; show (2 + _) + 1 ≤ 16777216; omega)
    rw [a1]
    simp only [vO_some]
    refine ⟨by show 1 ≤ 16777216; decide, ?_⟩
    rw [a2]
    refine ⟨few, ?_⟩
    rw [hx]
    exact put _ _
  | meth n k ks =>
    have i0 : ixV (vS (.meth n k ks)) (.int 0) = some (.str "method") := rfl
    have i1 : ixV (vS (.meth n k ks)) (.int 1) = some (.str n) := rfl
    have i2 : ixV (vS (.meth n k ks)) (.int 2) = some (.tup (nums (k :: ks))) := rfl
    have n1 : decide (Str.ofString "method" = Str.ofString "token") = false := by decide +kernel
    have n2 : decide (Str.ofString "method" = Str.ofString "operator") = false := by decide +kernel
    have n3 : decide (Str.ofString "method" = Str.ofString "call") = false := by decide +kernel
    have sm : ks.length ≤ 900 := sm
    have hk : ∀ q ∈ k :: ks, q < T.length := fun q hq => by
      rw [tl]
      rcases List.mem_cons.mp hq with rfl | hq
      · exact wf q List.mem_cons_self
      · exact wf q (List.mem_cons_of_mem _ (List.mem_cons_of_mem _ (List.mem_cons_of_mem _ (List.mem_cons_of_mem _ (List.mem_append_left _ (ix_drop hq))))))
    simp -implicitDefEqProofs only [vSeq, vSet, vDrop, vRet, vRetV, vRetN, vNext, vBreak, vCont, vIfS, vPar, vAsg, vCall, vCallK, vCallB, vCons, vNil, vVar, vPk, vC, vBin, vUn, vCB, vMt, vTest, vTru, vtAnd, vtOr, vtNot, vtTrue, vIf, vAnd, vOr, vNot, vChain, vTup, vLst, vSl, voNone, voSome, viAny, viRg1, viRg2, vFor, vLc, vRaise, DL.mk, Bool.false_and, Bool.true_and, isC, List.getElem?_cons_zero, List.getElem?_cons_succ, List.set_cons_zero, List.set_cons_succ, vO_some, vO_none, if_true, if_false, Bool.false_eq_true, Bool.not_true, Bool.not_false, i0, i1, i2, tok_eq, n1, itemsV, wipeV]
    refine ⟨by unfold nums; rw [List.length_map, List.length_cons]; omega, lc_rows hk ?_⟩
    have z0 : ixV (.lst ((k :: ks).map fun k => lS (T.getD k []))) (.int 0) = some (lS (T.getD k [])) := at0 _ _
    have z1 : slV (.lst ((k :: ks).map fun k => lS (T.getD k []))) (some 1) none = some (.lst ((ks.map fun k => T.getD k []).map lS)) := by
      show some (Vl.lst (cutL _ _ _)) = _
      rw [from1, ← lists_eq]; rfl
    simp -implicitDefEqProofs only [vSeq, vSet, vDrop, vRet, vRetV, vRetN, vNext, vBreak, vCont, vIfS, vPar, vAsg, vCall, vCallK, vCallB, vCons, vNil, vVar, vPk, vC, vBin, vUn, vCB, vMt, vTest, vTru, vtAnd, vtOr, vtNot, vtTrue, vIf, vAnd, vOr, vNot, vChain, vTup, vLst, vSl, voNone, voSome, viAny, viRg1, viRg2, vFor, vLc, vRaise, DL.mk, Bool.false_and, Bool.true_and, isC, List.getElem?_cons_zero, List.getElem?_cons_succ, List.set_cons_zero, List.set_cons_succ, vO_some, vO_none, if_true, if_false, Bool.false_eq_true, Bool.not_true, Bool.not_false, i0, i1, tok_eq, n2, n3, z0, z1, vApp, ownL, List.length_cons, List.length_nil, Nat.zero_add, true_and]
    obtain ⟨b1, b2⟩ := btw_600 (ks := ks) g6 sm
    have b0 := g6 k
    refine ⟨by show 3 ≤ 16777216; decide, ?_⟩
    have a0 : addV (lS (T.getD k [])) (.lst [.str (Str.ofString "."), .str n, .str (Str.ofString "(")]) = some (lS (T.getD k [] ++ [Str.ofString ".", n, Str.ofString "("])) := vadd_lS _ [Str.ofString ".", n, Str.ofString "("] (by show _ + 3 ≤ 16777216; omega)
    rw [a0]
    simp only [vO_some]
    refine k_between (by rw [List.length_map]; omega) (by omega) ?_
    have a1 : addV (lS (T.getD k [] ++ [Str.ofString ".", n, Str.ofString "("])) (lS (btw (ks.map fun k => T.getD k []))) = some (lS (T.getD k [] ++ [Str.ofString ".", n, Str.ofString "("] ++ btw (ks.map fun k => T.getD k []))) := vadd_lS _ _ (by rw [List.length_append]; show (_ + 3) + _ ≤ 16777216; omega)
    have a2 : addV (lS (T.getD k [] ++ [Str.ofString ".", n, Str.ofString "("] ++ btw (ks.map fun k => T.getD k []))) (.lst [.str (Str.ofString ")")]) = some (lS (exp T (parts (.meth n k ks)))) := by
      rw [exp_meth]
      exact vadd_lS _ [Str.ofString ")"] (by rw [List.length_append, List.length_append]; show ((_ + 3) + _) + 1 ≤ 16777216; omega)
    rw [a1]
    simp only [vO_some]
    refine ⟨by show 1 ≤ 16777216; decide, ?_⟩
    rw [a2]
    refine ⟨few, ?_⟩
    rw [hx]
    exact put _ _
  | oper n i k =>
    have i0 : ixV (vS (.oper n i k)) (.int 0) = some (.str "operator") := rfl
    have i1 : ixV (vS (.oper n i k)) (.int 1) = some (.str n) := rfl
    have i2 : ixV (vS (.oper n i k)) (.int 2) = some (.tup (nums [i, k])) := rfl
    have n1 : decide (Str.ofString "operator" = Str.ofString "token") = false := by decide +kernel
    have hk : ∀ q ∈ [i, k], q < T.length := fun q hq => by
      rw [tl]
      rcases List.mem_cons.mp hq with rfl | hq
      · exact wf q (by simp [parts])
      · rw [List.mem_singleton.mp hq]; exact wf k (by simp [parts])
    simp -implicitDefEqProofs only [vSeq, vSet, vDrop, vRet, vRetV, vRetN, vNext, vBreak, vCont, vIfS, vPar, vAsg, vCall, vCallK, vCallB, vCons, vNil, vVar, vPk, vC, vBin, vUn, vCB, vMt, vTest, vTru, vtAnd, vtOr, vtNot, vtTrue, vIf, vAnd, vOr, vNot, vChain, vTup, vLst, vSl, voNone, voSome, viAny, viRg1, viRg2, vFor, vLc, vRaise, DL.mk, Bool.false_and, Bool.true_and, isC, List.getElem?_cons_zero, List.getElem?_cons_succ, List.set_cons_zero, List.set_cons_succ, vO_some, vO_none, if_true, if_false, Bool.false_eq_true, Bool.not_true, Bool.not_false, i0, i1, i2, tok_eq, n1, itemsV, wipeV]
    refine ⟨by show 2 < 2 ^ 24; decide, lc_rows hk ?_⟩
    have z0 : ixV (.lst ([i, k].map fun k => lS (T.getD k []))) (.int 0) = some (lS (T.getD i [])) := at0 _ _
    have z1 : ixV (.lst ([i, k].map fun k => lS (T.getD k []))) (.int 1) = some (lS (T.getD k [])) := rfl
    simp -implicitDefEqProofs only [vSeq, vSet, vDrop, vRet, vRetV, vRetN, vNext, vBreak, vCont, vIfS, vPar, vAsg, vCall, vCallK, vCallB, vCons, vNil, vVar, vPk, vC, vBin, vUn, vCB, vMt, vTest, vTru, vtAnd, vtOr, vtNot, vtTrue, vIf, vAnd, vOr, vNot, vChain, vTup, vLst, vSl, voNone, voSome, viAny, viRg1, viRg2, vFor, vLc, vRaise, DL.mk, Bool.false_and, Bool.true_and, isC, List.getElem?_cons_zero, List.getElem?_cons_succ, List.set_cons_zero, List.set_cons_succ, vO_some, vO_none, if_true, if_false, Bool.false_eq_true, Bool.not_true, Bool.not_false, i0, i1, tok_eq, decide_true, z0, z1, vApp, ownL]
    have b0 := g6 i
    have b1 := g6 k
    have a0 : addV (.lst [.str (Str.ofString "(")]) (lS (T.getD i [])) = some (lS ([Str.ofString "("] ++ T.getD i [])) := vadd_lS [Str.ofString "("] _ (by show 1 + _ ≤ 16777216; omega)
    have a1 : addV (lS ([Str.ofString "("] ++ T.getD i [])) (.lst [.str n]) = some (lS ([Str.ofString "("] ++ T.getD i [] ++ [n])) := vadd_lS _ [n] (by rw [List.length_append]; show (1 + _) + 1 ≤ 16777216; omega)
    have a2 : addV (lS ([Str.ofString "("] ++ T.getD i [] ++ [n])) (lS (T.getD k [])) = some (lS ([Str.ofString "("] ++ T.getD i [] ++ [n] ++ T.getD k [])) := vadd_lS _ _ (by rw [List.length_append, List.length_append]; show ((1 + _) + 1) + _ ≤ 16777216; omega)
    have a3 : addV (lS ([Str.ofString "("] ++ T.getD i [] ++ [n] ++ T.getD k [])) (.lst [.str (Str.ofString ")")]) = some (lS (exp T (parts (.oper n i k)))) := by
      rw [exp_oper]
      exact vadd_lS _ [Str.ofString ")"] (by rw [List.length_append, List.length_append, List.length_append]; show (((1 + _) + 1) + _) + 1 ≤ 16777216; omega)
    refine ⟨by show 1 ≤ 16777216; decide, ?_⟩
    rw [a0]
    simp only [vO_some]
    refine ⟨by show 1 ≤ 16777216; decide, ?_⟩
    rw [a1]
    simp only [vO_some]
    rw [a2]
    simp only [vO_some]
    refine ⟨by show 1 ≤ 16777216; decide, ?_⟩
    rw [a3]
    refine ⟨few, ?_⟩
    rw [hx]
    exact put _ _
theorem k_written {rows : List Sp} (hr : Rw rows) (hb : Bd rows) (q : Q (.lst ((tab rows).map lS))) : V__law_written [vR rows] Q E := by
  unfold V__law_written vRun v__law_written
  have s5 : startV 5 [vR rows] = [some (.sh (vR rows)), none, none, none, none] := rfl
  have it : itemsV (vR rows) = some (rows.map vS) := rfl
  have hn := hr.n
  rw [s5]
  show vSeq (vSet true 1 (vLst (vNil))) (vSeq (vFor (viAny (vVar 0)) (.nm 2) wrB) (vRetV false 1)) _ _
  simp -implicitDefEqProofs only [vSeq, vSet, vDrop, vRet, vRetV, vRetN, vNext, vBreak, vCont, vIfS, vPar, vAsg, vCall, vCallK, vCallB, vCons, vNil, vVar, vPk, vC, vBin, vUn, vCB, vMt, vTest, vTru, vtAnd, vtOr, vtNot, vtTrue, vIf, vAnd, vOr, vNot, vChain, vTup, vLst, vSl, voNone, voSome, viAny, viRg1, viRg2, vFor, vLc, vRaise, DL.mk, Bool.false_and, Bool.true_and, isC, List.getElem?_cons_zero, List.getElem?_cons_succ, List.set_cons_zero, List.set_cons_succ, vO_some, vO_none, if_true, if_false, Bool.false_eq_true, Bool.not_true, Bool.not_false, it]
  refine ⟨Nat.zero_le _, by rw [List.length_map]; omega, ?_⟩
  refine loop_at (J := fun i e => ∃ x y z, e = [some (.sh (vR rows)), some (.ow (.lst ((tab (rows.take i)).map lS))), x, y, z]) _ 0 ⟨none, none, none, rfl⟩ (fun j v env K hj hJ hK => ?_) fun e he => ?_
  · rw [List.getElem?_map] at hj
    obtain ⟨s, hs, rfl⟩ := Option.map_eq_some_iff.mp hj
    rw [Nat.zero_add] at hJ hK
    obtain ⟨x, y, z, rfl⟩ := hJ
    simp only [Tg.putV, vO_some, List.set_cons_succ, List.set_cons_zero]
    exact k_wrB hr hb hs rfl rfl fun x y => hK _ ⟨_, x, y, rfl⟩
  · obtain ⟨x, y, z, rfl⟩ := he
    have e2 : rows.take (0 + (rows.map vS).length) = rows := by rw [Nat.zero_add, List.length_map, List.take_length]
    rw [e2]
    simp only [vSeq, vSet, vDrop, vRet, vRetV, vRetN, vNext, vBreak, vCont, vIfS, vPar, vAsg, vCall, vCallK, vCallB, vCons, vNil, vVar, vPk, vC, vBin, vUn, vCB, vMt, vTest, vTru, vtAnd, vtOr, vtNot, vtTrue, vIf, vAnd, vOr, vNot, vChain, vTup, vLst, vSl, voNone, voSome, viAny, viRg1, viRg2, vFor, vLc, vRaise, DL.mk, Bool.false_and, Bool.true_and, isC, List.getElem?_cons_zero, List.getElem?_cons_succ, List.set_cons_zero, List.set_cons_succ, vO_some, vO_none, if_true, if_false, Bool.false_eq_true, Bool.not_true, Bool.not_false]
    exact q
end
end K43

set_option maxHeartbeats 1000000
/-! tokens_of -/
namespace K43
open PySem L2 DL
def wt2 (T : List (List Str)) : List Pt → Nat
  | [] => 0
  | .tk _ :: r => 1 + wt2 T r
  | .ix k :: r => 1 + 2 * (T.getD k []).length + wt2 T r
def own : List Pt → Nat
  | [] => 0
  | .tk _ :: r => 1 + own r
  | .ix _ :: r => own r
def nix : List Pt → Nat
  | [] => 0
  | .tk _ :: r => nix r
  | .ix _ :: r => 1 + nix r
theorem wt2_eq (T : List (List Str)) : ∀ ps : List Pt, wt2 T ps + own ps = 2 * (exp T ps).length + nix ps
  | [] => rfl
  | .tk x :: r => by
    have ih := wt2_eq T r
    show 1 + wt2 T r + (1 + own r) = 2 * (x :: exp T r).length + nix r
    rw [List.length_cons]; omega
  | .ix k :: r => by
    have ih := wt2_eq T r
    show 1 + 2 * (T.getD k []).length + wt2 T r + own r = 2 * (T.getD k [] ++ exp T r).length + (1 + nix r)
    rw [List.length_append]; omega
theorem own_app : ∀ a b : List Pt, own (a ++ b) = own a + own b
  | [], b => by simp [own]
  | .tk x :: a, b => by show 1 + own (a ++ b) = 1 + own a + own b; rw [own_app a b]; omega
  | .ix x :: a, b => by show own (a ++ b) = own a + own b; rw [own_app a b]
theorem nix_app : ∀ a b : List Pt, nix (a ++ b) = nix a + nix b
  | [], b => by simp [nix]
  | .tk x :: a, b => by show nix (a ++ b) = nix a + nix b; rw [nix_app a b]
  | .ix x :: a, b => by show 1 + nix (a ++ b) = 1 + nix a + nix b; rw [nix_app a b]; omega
theorem wt2_app (T : List (List Str)) : ∀ a b : List Pt, wt2 T (a ++ b) = wt2 T a + wt2 T b
  | [], b => by simp [wt2]
  | .tk x :: a, b => by show 1 + wt2 T (a ++ b) = 1 + wt2 T a + wt2 T b; rw [wt2_app T a b]; omega
  | .ix x :: a, b => by show 1 + _ + wt2 T (a ++ b) = 1 + _ + wt2 T a + wt2 T b; rw [wt2_app T a b]; omega
theorem cm_cnt : ∀ ks : List Nat, own (cm ks) = ks.length ∧ nix (cm ks) = ks.length
  | [] => ⟨rfl, rfl⟩
  | k :: r => by
    obtain ⟨a, b⟩ := cm_cnt r
    show 1 + own (cm r) = _ ∧ 1 + nix (cm r) = _
    rw [a, b, List.length_cons]; omega
theorem cm_cnt1 (ks : List Nat) : nix ((cm ks).drop 1) ≤ own ((cm ks).drop 1) + 1 := by
  cases ks with
  | nil => decide
  | cons k r =>
    obtain ⟨a, b⟩ := cm_cnt r
    show 1 + nix (cm r) ≤ own (cm r) + 1
    omega
theorem nix_own (s : Sp) : nix (parts s) ≤ own (parts s) := by
  cases s with
  | tk x => show 0 ≤ _; omega
  | call n ks =>
    have := cm_cnt1 ks
    show nix ((cm ks).drop 1 ++ [.tk ")"]) ≤ 1 + (1 + own ((cm ks).drop 1 ++ [.tk ")"]))
    rw [nix_app, own_app]
    show nix _ + 0 ≤ 1 + (1 + (own _ + 1))
    omega
  | meth n k ks =>
    have := cm_cnt1 ks
    show 1 + nix ((cm ks).drop 1 ++ [.tk ")"]) ≤ 1 + (1 + (1 + own ((cm ks).drop 1 ++ [.tk ")"])))
    rw [nix_app, own_app]
    show 1 + (nix _ + 0) ≤ 1 + (1 + (1 + (own _ + 1)))
    omega
  | oper s i j => show 2 ≤ 3; decide
theorem wt2_parts (T : List (List Str)) (s : Sp) : wt2 T (parts s) ≤ 2 * (exp T (parts s)).length := by
  have := wt2_eq T (parts s)
  have := nix_own s
  omega
theorem len_wt2 (T : List (List Str)) : ∀ ps : List Pt, ps.length ≤ wt2 T ps
  | [] => Nat.le_refl _
  | .tk x :: r => by have := len_wt2 T r; show r.length + 1 ≤ 1 + wt2 T r; omega
  | .ix k :: r => by have := len_wt2 T r; show r.length + 1 ≤ 1 + _ + wt2 T r; omega
theorem nix_len : ∀ ps : List Pt, nix ps ≤ ps.length
  | [] => Nat.le_refl _
  | .tk x :: r => by have := nix_len r; show nix r ≤ r.length + 1; omega
  | .ix k :: r => by have := nix_len r; show 1 + nix r ≤ r.length + 1; omega
theorem Lo.app {n : Nat} {a b : List Pt} (h : Lo n a) (g : Lo n b) : Lo n (a ++ b) := fun k hk => (List.mem_append.mp hk).elim (h k) (g k)
theorem ne_nil (xs : List Vl) : neV (.lst xs) (.lst []) = some (.bl (!xs.isEmpty)) := by
  unfold neV eqB eq0V
  simp only [List.isEmpty_nil, Bool.or_true, if_true, Bool.and_true, Option.map_some]
theorem at_row {rows : List Sp} {k : Nat} {s : Sp} (h : rows[k]? = some s) : ixV (vR rows) (.int (k : Nat)) = some (vS s) := by
  have hk : k < rows.length := (List.getElem?_eq_some_iff.mp h).1
  show atI (rows.map vS) (k : Int) = _
  unfold atI ixN
  rw [if_pos (by omega), if_pos (by rw [List.length_map]; omega)]
  show (rows.map vS)[(k : Int).toNat]? = _
  rw [Int.toNat_natCast, List.getElem?_map, h]
  rfl
def tT : VTM := vTest (vBin neV (vPk 5) (vLst (vNil)))
def tB : VSM := vSeq (vPop 6 5)
    (vIfS (vTru (vCB isiV (vCons (vPk 6) (vCons (vC (.raw (.ty "str"))) (vNil))))) (vApp 4 (vVar 6)) (vExt 5 (vUn revV (vCall 1 V_parts_of (vCons (vBin ixV (vPk 0) (vPk 6)) (vNil))))))
def tE : VSM := vRet (vCB tupleOfV (vCons (vPk 4) (vNil)))
section
variable {Q : Vl → Prop} {E : VX → Prop}
theorem k_run {rows : List Sp} (hr : Rw rows) : ∀ (f : Nat) {ps : List Pt} {dn : List Str} {l m n : VS} {o : Option VS}, wt2 (tab rows) ps < f → f ≤ 2000000 → dn.length + (exp (tab rows) ps).length ≤ 1000000 → Lo rows.length ps →
    Q (.tup ((dn ++ exp (tab rows) ps).map .str)) → vWh tT tB f [some (.sh (vR rows)), some l, some m, some n, some (.ow (.lst (dn.map .str))), some (.ow (.lst (ps.map vP).reverse)), o] { nx := fun e => tE e { nx := fun _ => Q .non, rt := Q, ex := fun x _ => E x }, rt := Q, ex := fun x _ => E x }
  | 0, ps, dn, l, m, n, o, h, _, _, _, _ => absurd h (Nat.not_lt_zero _)
  | f + 1, [], dn, l, m, n, o, h, hf, hd, hl, q => by
    refine wh_next fun K hK => ?_
    unfold tT
    simp -implicitDefEqProofs only [vSeq, vSet, vDrop, vRet, vRetV, vRetN, vNext, vBreak, vCont, vIfS, vPar, vAsg, vCall, vCallK, vCallB, vCons, vNil, vVar, vPk, vC, vBin, vUn, vCB, vMt, vTest, vTru, vtAnd, vtOr, vtNot, vtTrue, vIf, vAnd, vOr, vNot, vChain, vTup, vLst, vSl, voNone, voSome, viAny, viRg1, viRg2, vFor, vLc, vRaise, DL.mk, Bool.false_and, Bool.true_and, isC, List.getElem?_cons_zero, List.getElem?_cons_succ, List.set_cons_zero, List.set_cons_succ, vO_some, vO_none, if_true, if_false, Bool.false_eq_true, Bool.not_true, Bool.not_false, ne_nil, List.map_nil, List.reverse_nil, List.isEmpty_nil]
    refine ⟨Nat.zero_le _, ?_⟩
    unfold tE
    have e : tupleOfV [.lst (dn.map .str)] = some (.tup (dn.map .str)) := rfl
    simp -implicitDefEqProofs only [vSeq, vSet, vDrop, vRet, vRetV, vRetN, vNext, vBreak, vCont, vIfS, vPar, vAsg, vCall, vCallK, vCallB, vCons, vNil, vVar, vPk, vC, vBin, vUn, vCB, vMt, vTest, vTru, vtAnd, vtOr, vtNot, vtTrue, vIf, vAnd, vOr, vNot, vChain, vTup, vLst, vSl, voNone, voSome, viAny, viRg1, viRg2, vFor, vLc, vRaise, DL.mk, Bool.false_and, Bool.true_and, isC, List.getElem?_cons_zero, List.getElem?_cons_succ, List.set_cons_zero, List.set_cons_succ, vO_some, vO_none, if_true, if_false, Bool.false_eq_true, Bool.not_true, Bool.not_false, e]
    have e2 : dn ++ exp (tab rows) [] = dn := List.append_nil _
    rw [e2] at q
    exact q
  | f + 1, p :: r, dn, l, m, n, o, h, hf, hd, hl, q => by
    refine wh_next fun K hK => ?_
    have lw := len_wt2 (tab rows) r
    have pop1 : (((p :: r).map vP).reverse).getLast? = some (vP p) := by rw [List.getLast?_reverse]; rfl
    have pop2 : (((p :: r).map vP).reverse).dropLast = (r.map vP).reverse := by rw [List.map_cons, List.reverse_cons, List.dropLast_concat]
    have ne : (((p :: r).map vP).reverse).isEmpty = false := by
      rw [List.isEmpty_reverse]; rfl
    unfold tT tB
    simp -implicitDefEqProofs only [vSeq, vSet, vDrop, vRet, vRetV, vRetN, vNext, vBreak, vCont, vIfS, vPar, vAsg, vCall, vCallK, vCallB, vCons, vNil, vVar, vPk, vC, vBin, vUn, vCB, vMt, vTest, vTru, vtAnd, vtOr, vtNot, vtTrue, vIf, vAnd, vOr, vNot, vChain, vTup, vLst, vSl, voNone, voSome, viAny, viRg1, viRg2, vFor, vLc, vRaise, DL.mk, Bool.false_and, Bool.true_and, isC, List.getElem?_cons_zero, List.getElem?_cons_succ, List.set_cons_zero, List.set_cons_succ, vO_some, vO_none, if_true, if_false, Bool.false_eq_true, Bool.not_true, Bool.not_false, ne_nil, ne, vPop, ownL, pop1, pop2, isi_sP, truV]
    refine ⟨Nat.zero_le _, ?_⟩
    cases p with
    | tk x =>
      simp -implicitDefEqProofs only [vSeq, vSet, vDrop, vRet, vRetV, vRetN, vNext, vBreak, vCont, vIfS, vPar, vAsg, vCall, vCallK, vCallB, vCons, vNil, vVar, vPk, vC, vBin, vUn, vCB, vMt, vTest, vTru, vtAnd, vtOr, vtNot, vtTrue, vIf, vAnd, vOr, vNot, vChain, vTup, vLst, vSl, voNone, voSome, viAny, viRg1, viRg2, vFor, vLc, vRaise, DL.mk, Bool.false_and, Bool.true_and, isC, List.getElem?_cons_zero, List.getElem?_cons_succ, List.set_cons_zero, List.set_cons_succ, vO_some, vO_none, if_true, if_false, Bool.false_eq_true, Bool.not_true, Bool.not_false, vApp, ownL, vP]
      refine ⟨by rw [List.length_map]; show _ < 16777216; omega, ?_⟩
      have wr : wt2 (tab rows) (.tk x :: r) = 1 + wt2 (tab rows) r := rfl
      have er : exp (tab rows) (.tk x :: r) = x :: exp (tab rows) r := rfl
      rw [er, List.length_cons] at hd
      have ih := k_run hr f (ps := r) (dn := dn ++ [x]) (l := l) (m := m) (n := n) (o := some (.sh (.str x))) (by omega) (by omega) (by rw [List.length_append, List.length_cons, List.length_nil]; omega) (fun k hk => hl k (List.mem_cons_of_mem _ hk)) (by
        rw [er] at q
        rw [List.append_assoc]
        exact q)
      rw [List.map_append] at ih
      exact hK _ ih
    | ix k =>
      have hk : k < rows.length := hl k List.mem_cons_self
      obtain ⟨s, hs⟩ : ∃ s, rows[k]? = some s := ⟨_, List.getElem?_eq_getElem hk⟩
      have sm := hr.sm s (List.mem_of_getElem? hs)
      have ta := tab_at hr.wf hs
      have wp := wt2_parts (tab rows) s
      have pl := parts_len sm
      have wr : wt2 (tab rows) (.ix k :: r) = 1 + 2 * ((tab rows).getD k []).length + wt2 (tab rows) r := rfl
      have er : exp (tab rows) (.ix k :: r) = (tab rows).getD k [] ++ exp (tab rows) r := rfl
      rw [ta] at wr er
      have lo : Lo rows.length (parts s) := fun q hq => Nat.lt_of_lt_of_le (hr.wf k s hs q hq) (Nat.le_of_lt hk)
      have rv : revV (.lst ((parts s).map vP)) = some (.lst ((parts s).map vP).reverse) := rfl
      have ar := at_row hs
      simp -implicitDefEqProofs only [vSeq, vSet, vDrop, vRet, vRetV, vRetN, vNext, vBreak, vCont, vIfS, vPar, vAsg, vCall, vCallK, vCallB, vCons, vNil, vVar, vPk, vC, vBin, vUn, vCB, vMt, vTest, vTru, vtAnd, vtOr, vtNot, vtTrue, vIf, vAnd, vOr, vNot, vChain, vTup, vLst, vSl, voNone, voSome, viAny, viRg1, viRg2, vFor, vLc, vRaise, DL.mk, Bool.false_and, Bool.true_and, isC, List.getElem?_cons_zero, List.getElem?_cons_succ, List.set_cons_zero, List.set_cons_succ, vO_some, vO_none, if_true, if_false, Bool.false_eq_true, Bool.not_true, Bool.not_false, vExt, ownL, vP, ar, List.length_cons, List.length_nil, Nat.zero_add, true_and]
      refine k_parts sm ?_
      rw [rv]
      refine ⟨?_, ?_⟩
      · rw [List.length_reverse, List.length_map, List.length_reverse, List.length_map]
        show _ ≤ 16777216
        omega
      · have ih := k_run hr f (ps := parts s ++ r) (dn := dn) (l := l) (m := m) (n := n) (o := some (.sh (.int (k : Nat)))) (by rw [wt2_app]; omega) (by omega) (by rw [exp_app, ← er]; exact hd) (lo.app fun q hq => hl q (List.mem_cons_of_mem _ hq)) (by rw [exp_app, ← er]; exact q)
        rw [List.map_append, List.reverse_append] at ih
        exact hK _ ih
def long (n : Nat) : VX := ⟨"TooLong", [("length", .int (n : Nat))]⟩
theorem k_tokens {rows : List Sp} {lot : List Pt} {m : Int} (hr : Rw rows) (hl : Lt rows.length lot) (hd : (exp (tab rows) lot).length ≤ 100000)
    (q : ((exp (tab rows) lot).length : Int) ≤ m → Q (.tup ((exp (tab rows) lot).map .str))) (e : m < ((exp (tab rows) lot).length : Int) → E (long (exp (tab rows) lot).length)) : V_tokens_of [vR rows, vL lot, .int m] Q E := by
  unfold V_tokens_of vRun v_tokens_of
  have s7 : startV 7 [vR rows, vL lot, .int m] = [some (.sh (vR rows)), some (.sh (vL lot)), some (.sh (.int m)), none, none, none, none] := rfl
  rw [s7]
  have bdy : vSeq (vWhile (vTest (vBin neV (vPk 5) (vLst (vNil)))) (vSeq (vPop 6 5)
    (vIfS (vTru (vCB isiV (vCons (vPk 6) (vCons (vC (.raw (.ty "str"))) (vNil))))) (vApp 4 (vVar 6)) (vExt 5 (vUn revV (vCall 1 V_parts_of (vCons (vBin ixV (vPk 0) (vPk 6)) (vNil))))))))
    (vRet (vCB tupleOfV (vCons (vPk 4) (vNil)))) = fun env P => vWhile tT tB env { P with nx := fun e => tE e P } := rfl
  rw [bdy]
  have gt : gtV (.int ((exp (tab rows) lot).length : Nat)) (.int m) = some (.bl (decide (m < ((exp (tab rows) lot).length : Int)))) := rfl
  have rv : revV (vL lot) = some (.tup (lot.map vP).reverse) := rfl
  have lo : listOfV [.tup (lot.map vP).reverse] = some (.lst (lot.map vP).reverse) := rfl
  simp -implicitDefEqProofs only [vSeq, vSet, vDrop, vRet, vRetV, vRetN, vNext, vBreak, vCont, vIfS, vPar, vAsg, vCall, vCallK, vCallB, vCons, vNil, vVar, vPk, vC, vBin, vUn, vCB, vMt, vTest, vTru, vtAnd, vtOr, vtNot, vtTrue, vIf, vAnd, vOr, vNot, vChain, vTup, vLst, vSl, voNone, voSome, viAny, viRg1, viRg2, vFor, vLc, vRaise, DL.mk, Bool.false_and, Bool.true_and, isC, List.getElem?_cons_zero, List.getElem?_cons_succ, List.set_cons_zero, List.set_cons_succ, vO_some, vO_none, if_true, if_false, Bool.false_eq_true, Bool.not_true, Bool.not_false, List.length_cons, List.length_nil, Nat.zero_add, true_and, Nat.reduceAdd]
  refine k_length_of hr hl ?_
  rw [gt]
  simp only [vO_some]
  by_cases h : m < ((exp (tab rows) lot).length : Int)
  · rw [decide_eq_true h]
    simp only [if_true]
    exact e h
  · rw [decide_eq_false h]
    simp only [Bool.false_eq_true, if_false]
    refine ⟨Nat.zero_le _, ?_⟩
    rw [rv]
    simp only [vO_some]
    rw [lo]
    simp only [vO_some]
    have w1 := wt2_eq (tab rows) lot
    have w2 := nix_len lot
    have w3 := hl.n
    refine ⟨wt2 (tab rows) lot + 1, by show _ ≤ FUEL; unfold FUEL; omega, ?_⟩
    exact k_run hr _ (ps := lot) (dn := []) (Nat.lt_succ_self _) (by omega) (by rw [List.length_nil]; omega) hl.lo (by rw [List.nil_append]; exact q (by omega))
/-! what is heard -/
def heard (ts : List Str) (m : Int) : Vl := if (ts.length : Int) ≤ m then .tup (ts.map .str) else .lst [.int (ts.length : Nat)]
def most (t : Option Int) : Int := t.getD 2000
def vT (t : Option Int) : Vl := match t with
  | some m => .int m
  | none => .non
end
end K43

set_option maxHeartbeats 1000000
/-! what is heard -/
namespace K43
open PySem L2 DL
section
variable {Q : Vl → Prop} {E : VX → Prop}
def hB : VX → VSM := fun x => vSet false 3 (vIf (vTru (vXi y_GapError n_GapError x)) (vLst (vCons (vXf y_TooLong "length" x) vNil)) (vLst (vCons (vC (.str "another error")) (vNil))))
theorem k_hB {n : Nat} {a b c d e : Option VS} {P : VP} (h : P.nx [a, b, c, some (.sh (.lst [.int (n : Nat)])), e]) : hB (long n) [a, b, c, d, e] P := by
  have y1 : (long n).C ∈ y_TooLong := List.mem_singleton.mpr rfl
  have y2 : (long n).C ∈ y_GapError := List.mem_singleton.mpr rfl
  have lk : ((long n).fs).lookup (Str.ofString "length") = some (Vl.int (n : Nat)) := rfl
  unfold hB vSet vIf vTru vXi
  dsimp only
  rw [if_pos y2]
  simp only [truV, vO_some, if_true]
  unfold vLst vCons vXf vNil
  dsimp only
  rw [if_pos y1, lk]
  exact ⟨by show 1 ≤ 16777216; decide, h⟩
def hC : VM := vIf (vTest (vBin isNotV (vPk 2) (vC .non))) (vCallK 3 V_tokens_of [(false, 0), (false, 1), (true, 0)] (vCons (vVar 0) (vCons (vVar 1) (vNil))) (vCons (vVar 2) (vNil))) (vCallD 3 V_tokens_of [.int 2000] (vCons (vVar 0) (vCons (vVar 1) (vNil))))
def Tok (rv lv : Vl) (ts : List Str) : Prop := ∀ (m : Int) (Q : Vl → Prop) (E : VX → Prop), ((ts.length : Int) ≤ m → Q (.tup (ts.map .str))) → (m < (ts.length : Int) → E (long ts.length)) → V_tokens_of [rv, lv, .int m] Q E
theorem k_hC {rv lv : Vl} {ts : List Str} (tok : Tok rv lv ts) {t : Option Int} {d e : Option VS} (q1 : (ts.length : Int) ≤ most t → Q (.tup (ts.map .str))) (q2 : most t < (ts.length : Int) → E (long ts.length)) :
    hC [some (.sh rv), some (.sh lv), some (.sh (vT t)), d, e] Q E := by
  cases t with
  | some m => exact ⟨rfl, tok m Q E q1 q2⟩
  | none => exact ⟨rfl, tok 2000 Q E q1 q2⟩
theorem k_heard {rv lv : Vl} {ts : List Str} (tok : Tok rv lv ts) {t : Option Int} (q : Q (heard ts (most t))) : V__law_heard [rv, lv, vT t] Q E := by
  have ok1 : (ts.length : Int) ≤ most t → Q (.tup (ts.map .str)) := fun h => by unfold heard at q; rw [if_pos h] at q; exact q
  have ok2 : most t < (ts.length : Int) → Q (.lst [.int (ts.length : Nat)]) := fun h => by unfold heard at q; rw [if_neg (by omega)] at q; exact q
  have y1 : (long ts.length).C ∈ y_TooLong := List.mem_singleton.mpr rfl
  show hC [some (.sh rv), some (.sh lv), some (.sh (vT t)), some (.sh .non), none] _ _
  refine k_hC tok (fun h => ⟨(fun z => nomatch z), ok1 h⟩) fun h => ⟨by show 4 < 5; decide, ?_⟩
  rw [if_pos y1]
  exact k_hB ⟨(fun z => nomatch z), ok2 h⟩
end
end K43

set_option maxHeartbeats 1000000
/-! draws; a step's size -/
namespace K43
open PySem L2 DL
section
variable {Q : Vl → Prop} {E : VX → Prop}
theorem k_draw {k : Int} (h0 : 0 < k) (h1 : k < 1073741824) (q : ∀ i : Int, 0 ≤ i → i < k → Q (.int i)) : vDraw [.hand, .int k] Q E := ⟨h0, h1, q⟩
theorem atI_nat {α : Type} {xs : List α} {i : Int} (h0 : 0 ≤ i) (h1 : i < xs.length) : ∃ x, atI xs i = some x ∧ x ∈ xs := by
  unfold atI ixN
  rw [if_pos h0, if_pos h1]
  have : i.toNat < xs.length := by omega
  exact ⟨xs[i.toNat], by simp [this], List.getElem_mem _⟩
theorem k_pick {xs : List Vl} (h0 : 0 < xs.length) (h1 : xs.length < 1000) (q : ∀ v ∈ xs, Q v) : V__law_pick [.hand, .lst xs] Q E := by
  show 2 = 2 ∧ vDraw [.hand, .int (xs.length : Nat)] (fun y => vO (ixV (.lst xs) y) Q) E
  refine ⟨rfl, k_draw (by omega) (by omega) fun i i0 i1 => ?_⟩
  obtain ⟨x, hx, hm⟩ := atI_nat i0 i1
  show vO (atI xs i) Q
  rw [hx]
  exact q x hm
/-- how many tokens a step stands for, the rows' sizes known -/
def sz (L : List Nat) (s : Sp) : Nat := lenP L (parts s)
theorem lenP_app (L : List Nat) : ∀ a b : List Pt, lenP L (a ++ b) = lenP L a + lenP L b
  | [], b => by simp [lenP]
  | .tk x :: a, b => by show 1 + lenP L (a ++ b) = 1 + lenP L a + lenP L b; rw [lenP_app L a b]; omega
  | .ix x :: a, b => by show _ + lenP L (a ++ b) = _ + lenP L a + lenP L b; rw [lenP_app L a b]; omega
def tot (L : List Nat) (ks : List Nat) : Nat := (ks.map fun k => L.getD k 0).sum
theorem lenP_cm (L : List Nat) : ∀ ks : List Nat, lenP L (cm ks) = tot L ks + ks.length
  | [] => rfl
  | k :: r => by
    have ih := lenP_cm L r
    show 1 + (L.getD k 0 + lenP L (cm r)) = tot L (k :: r) + (r.length + 1)
    rw [ih]
    show _ = (L.getD k 0 + tot L r) + (r.length + 1)
    omega
theorem lenP_cm1 (L : List Nat) (ks : List Nat) : lenP L ((cm ks).drop 1) + 1 = tot L ks + max 1 ks.length := by
  cases ks with
  | nil => rfl
  | cons k r =>
    have := lenP_cm L r
    show L.getD k 0 + lenP L (cm r) + 1 = (L.getD k 0 + tot L r) + max 1 (r.length + 1)
    rw [this]
    omega
theorem sz_call (L : List Nat) (n : Str) (ks : List Nat) : sz L (.call n ks) = tot L ks + (2 + max 1 ks.length) := by
  have := lenP_cm1 L ks
  show 1 + (1 + lenP L ((cm ks).drop 1 ++ [.tk ")"])) = _
  rw [lenP_app]
  show 1 + (1 + (lenP L ((cm ks).drop 1) + (1 + 0))) = _
  omega
theorem sz_meth (L : List Nat) (n : Str) (k : Nat) (ks : List Nat) : sz L (.meth n k ks) = tot L (k :: ks) + (3 + max 1 ks.length) := by
  have := lenP_cm1 L ks
  show L.getD k 0 + (1 + (1 + (1 + lenP L ((cm ks).drop 1 ++ [.tk ")"])))) = (L.getD k 0 + tot L ks) + (3 + max 1 ks.length)
  rw [lenP_app]
  show L.getD k 0 + (1 + (1 + (1 + (lenP L ((cm ks).drop 1) + (1 + 0))))) = _
  omega
theorem sz_oper (L : List Nat) (s : Str) (i j : Nat) : sz L (.oper s i j) = tot L [i, j] + 3 := by
  show 1 + (L.getD i 0 + (1 + (L.getD j 0 + (1 + 0)))) = (L.getD i 0 + (L.getD j 0 + 0)) + 3
  omega
end
end K43

set_option maxHeartbeats 1000000
/-! a step's size on values -/
namespace K43
open PySem L2 DL
section
variable {Q : Vl → Prop} {E : VX → Prop}
theorem ints_nums : ∀ M : List Nat, intsOf (nums M) = some (M.map fun (k : Nat) => (k : Int))
  | [] => rfl
  | k :: M => by
    show (intsOf (nums M)).map ((k : Int) :: ·) = _
    rw [ints_nums M]; rfl
theorem sum_cast : ∀ M : List Nat, (M.map fun (k : Nat) => (k : Int)).sum = ((M.sum : Nat) : Int)
  | [] => rfl
  | k :: M => by
    rw [List.map_cons, List.sum_cons, sum_cast M, List.sum_cons]; omega
theorem sum_nums (M : List Nat) : sumV [.lst (nums M)] = some (.int (M.sum : Nat)) := by
  show (intsOf (nums M)).map (fun ns => Vl.int ns.sum) = _
  rw [ints_nums]
  show some (Vl.int _) = _
  rw [sum_cast]
theorem lc_sz {L ks : List Nat} {a c d : Option VS} {Q : List Vl → Prop} (hk : ∀ k ∈ ks, k < L.length) (q : Q (nums (ks.map fun k => L.getD k 0))) :
    vLcG (.nm 3) vtTrue (vBin ixV (vPk 1) (vPk 3)) [a, some (.sh (.lst (nums L))), c, d] (nums ks) [] Q := by
  refine lc_map (kb := fun _ => true) (g := fun v => match v with | .int k => .int (L.getD k.toNat 0 : Nat) | _ => .non) ?_ ?_
  · rw [List.filter_eq_self.mpr fun _ _ => rfl, List.nil_append]
    unfold nums at q ⊢
    rw [List.map_map] at q ⊢
    exact q
  · intro v hv Q1 Q2 h _
    unfold nums at hv
    obtain ⟨k, hm, rfl⟩ := List.mem_map.mp hv
    simp -implicitDefEqProofs only [Tg.putV, vSeq, vSet, vDrop, vRet, vRetV, vRetN, vNext, vBreak, vCont, vIfS, vPar, vAsg, vCall, vCallK, vCallB, vCons, vNil, vVar, vPk, vC, vBin, vUn, vCB, vMt, vTest, vTru, vtAnd, vtOr, vtNot, vtTrue, vIf, vAnd, vOr, vNot, vChain, vTup, vLst, vSl, voNone, voSome, viAny, viRg1, viRg2, vFor, vLc, vRaise, DL.mk, Bool.false_and, Bool.true_and, isC, List.getElem?_cons_zero, List.getElem?_cons_succ, List.set_cons_zero, List.set_cons_succ, vO_some, vO_none, if_true, if_false, Bool.false_eq_true, Bool.not_true, Bool.not_false, at_ints (hk k hm)]
    exact h rfl
theorem k_size {s : Sp} {L : List Nat} (hs : Sm s) (hl : Lo L.length (parts s)) (q : Q (.int (sz L s : Nat))) : V__law_size [vS s, .lst (nums L)] Q E := by
  unfold V__law_size vRun v__law_size
  have s4 : startV 4 [vS s, .lst (nums L)] = [some (.sh (vS s)), some (.sh (.lst (nums L))), none, none] := rfl
  rw [s4]
  cases s with
  | tk x =>
    have i0 : ixV (vS (.tk x)) (.int 0) = some (.str "token") := rfl
    simp -implicitDefEqProofs only [vSeq, vSet, vDrop, vRet, vRetV, vRetN, vNext, vBreak, vCont, vIfS, vPar, vAsg, vCall, vCallK, vCallB, vCons, vNil, vVar, vPk, vC, vBin, vUn, vCB, vMt, vTest, vTru, vtAnd, vtOr, vtNot, vtTrue, vIf, vAnd, vOr, vNot, vChain, vTup, vLst, vSl, voNone, voSome, viAny, viRg1, viRg2, vFor, vLc, vRaise, DL.mk, Bool.false_and, Bool.true_and, isC, List.getElem?_cons_zero, List.getElem?_cons_succ, List.set_cons_zero, List.set_cons_succ, vO_some, vO_none, if_true, if_false, Bool.false_eq_true, Bool.not_true, Bool.not_false, i0, tok_eq, decide_true]
    exact q
  | call n ks =>
    have i0 : ixV (vS (.call n ks)) (.int 0) = some (.str "call") := rfl
    have i2 : ixV (vS (.call n ks)) (.int 2) = some (.tup (nums ks)) := rfl
    have n1 : decide (Str.ofString "call" = Str.ofString "token") = false := by decide +kernel
    have n2 : decide (Str.ofString "call" = Str.ofString "operator") = false := by decide +kernel
    have hk : ∀ k ∈ ks, k < L.length := fun k hk => hl k (List.mem_cons_of_mem _ (List.mem_cons_of_mem _ (List.mem_append_left _ (ix_drop hk))))
    have hn : ks.length ≤ 900 := hs
    simp -implicitDefEqProofs only [vSeq, vSet, vDrop, vRet, vRetV, vRetN, vNext, vBreak, vCont, vIfS, vPar, vAsg, vCall, vCallK, vCallB, vCons, vNil, vVar, vPk, vC, vBin, vUn, vCB, vMt, vTest, vTru, vtAnd, vtOr, vtNot, vtTrue, vIf, vAnd, vOr, vNot, vChain, vTup, vLst, vSl, voNone, voSome, viAny, viRg1, viRg2, vFor, vLc, vRaise, DL.mk, Bool.false_and, Bool.true_and, isC, List.getElem?_cons_zero, List.getElem?_cons_succ, List.set_cons_zero, List.set_cons_succ, vO_some, vO_none, if_true, if_false, Bool.false_eq_true, Bool.not_true, Bool.not_false, i0, i2, tok_eq, n1, itemsV, wipeV]
    refine ⟨by unfold nums; rw [List.length_map]; omega, lc_sz hk ?_⟩
    have ll : lenV [.lst (nums (ks.map fun k => L.getD k 0))] = some (.int (ks.length : Nat)) := by
      show some (Vl.int _) = _
      unfold nums
      rw [List.length_map, List.length_map]
    have mx : maxV [.int 1, .int (ks.length : Nat)] = some (.int ((max 1 ks.length : Nat) : Int)) := by
      show some (Vl.int (if ((ks.length : Nat) : Int) > 1 then ((ks.length : Nat) : Int) else 1)) = _
      congr 2
      split <;> omega
    simp -implicitDefEqProofs only [vSeq, vSet, vDrop, vRet, vRetV, vRetN, vNext, vBreak, vCont, vIfS, vPar, vAsg, vCall, vCallK, vCallB, vCons, vNil, vVar, vPk, vC, vBin, vUn, vCB, vMt, vTest, vTru, vtAnd, vtOr, vtNot, vtTrue, vIf, vAnd, vOr, vNot, vChain, vTup, vLst, vSl, voNone, voSome, viAny, viRg1, viRg2, vFor, vLc, vRaise, DL.mk, Bool.false_and, Bool.true_and, isC, List.getElem?_cons_zero, List.getElem?_cons_succ, List.set_cons_zero, List.set_cons_succ, vO_some, vO_none, if_true, if_false, Bool.false_eq_true, Bool.not_true, Bool.not_false, i0, tok_eq, n2, sum_nums, decide_true]
    rw [ll]
    simp only [vO_some]
    rw [mx]
    simp only [vO_some, vadd_i]
    rw [sz_call] at q
    have e : (((ks.map fun k => L.getD k 0).sum : Nat) : Int) + (2 + ((max 1 ks.length : Nat) : Int)) = ((tot L ks + (2 + max 1 ks.length) : Nat) : Int) := by
      show ((tot L ks : Nat) : Int) + _ = _
      omega
    rw [e]
    exact q
  | meth n k ks =>
    have i0 : ixV (vS (.meth n k ks)) (.int 0) = some (.str "method") := rfl
    have i2 : ixV (vS (.meth n k ks)) (.int 2) = some (.tup (nums (k :: ks))) := rfl
    have n1 : decide (Str.ofString "method" = Str.ofString "token") = false := by decide +kernel
    have n2 : decide (Str.ofString "method" = Str.ofString "operator") = false := by decide +kernel
    have n3 : decide (Str.ofString "method" = Str.ofString "call") = false := by decide +kernel
    have hk : ∀ z ∈ k :: ks, z < L.length := fun z hq => by
      rcases List.mem_cons.mp hq with rfl | hq
      · exact hl _ List.mem_cons_self
      · exact hl z (List.mem_cons_of_mem _ (List.mem_cons_of_mem _ (List.mem_cons_of_mem _ (List.mem_cons_of_mem _ (List.mem_append_left _ (ix_drop hq))))))
    have hn : ks.length ≤ 900 := hs
    simp -implicitDefEqProofs only [vSeq, vSet, vDrop, vRet, vRetV, vRetN, vNext, vBreak, vCont, vIfS, vPar, vAsg, vCall, vCallK, vCallB, vCons, vNil, vVar, vPk, vC, vBin, vUn, vCB, vMt, vTest, vTru, vtAnd, vtOr, vtNot, vtTrue, vIf, vAnd, vOr, vNot, vChain, vTup, vLst, vSl, voNone, voSome, viAny, viRg1, viRg2, vFor, vLc, vRaise, DL.mk, Bool.false_and, Bool.true_and, isC, List.getElem?_cons_zero, List.getElem?_cons_succ, List.set_cons_zero, List.set_cons_succ, vO_some, vO_none, if_true, if_false, Bool.false_eq_true, Bool.not_true, Bool.not_false, i0, i2, tok_eq, n1, itemsV, wipeV]
    refine ⟨by unfold nums; rw [List.length_map, List.length_cons]; omega, lc_sz hk ?_⟩
    have ll : lenV [.lst (nums ((k :: ks).map fun k => L.getD k 0))] = some (.int ((ks.length + 1 : Nat) : Int)) := by
      show some (Vl.int _) = _
      unfold nums
      rw [List.length_map, List.length_map, List.length_cons]
    have sb : (((ks.length + 1 : Nat) : Int) - 1) = ((ks.length : Nat) : Int) := by omega
    have mx : maxV [.int 1, .int (ks.length : Nat)] = some (.int ((max 1 ks.length : Nat) : Int)) := by
      show some (Vl.int (if ((ks.length : Nat) : Int) > 1 then ((ks.length : Nat) : Int) else 1)) = _
      congr 2
      split <;> omega
    simp -implicitDefEqProofs only [vSeq, vSet, vDrop, vRet, vRetV, vRetN, vNext, vBreak, vCont, vIfS, vPar, vAsg, vCall, vCallK, vCallB, vCons, vNil, vVar, vPk, vC, vBin, vUn, vCB, vMt, vTest, vTru, vtAnd, vtOr, vtNot, vtTrue, vIf, vAnd, vOr, vNot, vChain, vTup, vLst, vSl, voNone, voSome, viAny, viRg1, viRg2, vFor, vLc, vRaise, DL.mk, Bool.false_and, Bool.true_and, isC, List.getElem?_cons_zero, List.getElem?_cons_succ, List.set_cons_zero, List.set_cons_succ, vO_some, vO_none, if_true, if_false, Bool.false_eq_true, Bool.not_true, Bool.not_false, i0, tok_eq, n2, n3, sum_nums]
    rw [ll]
    simp only [vO_some, vsub_i]
    rw [sb, mx]
    simp only [vO_some, vadd_i]
    rw [sz_meth] at q
    have e : ((((k :: ks).map fun k => L.getD k 0).sum : Nat) : Int) + (3 + ((max 1 ks.length : Nat) : Int)) = ((tot L (k :: ks) + (3 + max 1 ks.length) : Nat) : Int) := by
      show ((tot L (k :: ks) : Nat) : Int) + _ = _
      omega
    rw [e]
    exact q
  | oper n i j =>
    have i0 : ixV (vS (.oper n i j)) (.int 0) = some (.str "operator") := rfl
    have i2 : ixV (vS (.oper n i j)) (.int 2) = some (.tup (nums [i, j])) := rfl
    have n1 : decide (Str.ofString "operator" = Str.ofString "token") = false := by decide +kernel
    have hk : ∀ z ∈ [i, j], z < L.length := fun z hq => by
      rcases List.mem_cons.mp hq with rfl | hq
      · exact hl _ (by simp [parts])
      · rw [List.mem_singleton.mp hq]; exact hl j (by simp [parts])
    simp -implicitDefEqProofs only [vSeq, vSet, vDrop, vRet, vRetV, vRetN, vNext, vBreak, vCont, vIfS, vPar, vAsg, vCall, vCallK, vCallB, vCons, vNil, vVar, vPk, vC, vBin, vUn, vCB, vMt, vTest, vTru, vtAnd, vtOr, vtNot, vtTrue, vIf, vAnd, vOr, vNot, vChain, vTup, vLst, vSl, voNone, voSome, viAny, viRg1, viRg2, vFor, vLc, vRaise, DL.mk, Bool.false_and, Bool.true_and, isC, List.getElem?_cons_zero, List.getElem?_cons_succ, List.set_cons_zero, List.set_cons_succ, vO_some, vO_none, if_true, if_false, Bool.false_eq_true, Bool.not_true, Bool.not_false, i0, i2, tok_eq, n1, itemsV, wipeV]
    refine ⟨by show 2 < 2 ^ 24; decide, lc_sz hk ?_⟩
    simp -implicitDefEqProofs only [vSeq, vSet, vDrop, vRet, vRetV, vRetN, vNext, vBreak, vCont, vIfS, vPar, vAsg, vCall, vCallK, vCallB, vCons, vNil, vVar, vPk, vC, vBin, vUn, vCB, vMt, vTest, vTru, vtAnd, vtOr, vtNot, vtTrue, vIf, vAnd, vOr, vNot, vChain, vTup, vLst, vSl, voNone, voSome, viAny, viRg1, viRg2, vFor, vLc, vRaise, DL.mk, Bool.false_and, Bool.true_and, isC, List.getElem?_cons_zero, List.getElem?_cons_succ, List.set_cons_zero, List.set_cons_succ, vO_some, vO_none, if_true, if_false, Bool.false_eq_true, Bool.not_true, Bool.not_false, i0, tok_eq, decide_true, sum_nums, vadd_i]
    rw [sz_oper] at q
    have e : ((([i, j].map fun k => L.getD k 0).sum : Nat) : Int) + 3 = ((tot L [i, j] + 3 : Nat) : Int) := by
      show ((tot L [i, j] : Nat) : Int) + 3 = _
      omega
    rw [e]
    exact q
end
end K43

set_option maxHeartbeats 1000000
/-! steps that are drawn -/
namespace K43
open PySem L2 DL
/-- a token as it is drawn: short, of signs that repr takes -/
def Tk (x : Str) : Prop := x.length ≤ 11 ∧ ∀ c ∈ x.cps.toList, c < 4294967296
def Tks : Sp → Prop
  | .tk x => Tk x
  | .call n _ => Tk n
  | .meth n _ _ => Tk n
  | .oper s _ _ => Tk s
/-- a step over n rows -/
structure Stp (n : Nat) (s : Sp) : Prop where
  lo : Lo n (parts s)
  sm : Sm s
  tk : Tks s
theorem lo_cm {n : Nat} : ∀ {ks : List Nat}, (∀ k ∈ ks, k < n) → Lo n (cm ks)
  | [], _, k, h => nomatch h
  | k0 :: r, h, k, hk => by
    have hk : Pt.ix k ∈ (Pt.tk "," :: Pt.ix k0 :: cm r) := hk
    rcases List.mem_cons.mp hk with e | hk
    · cases e
    · rcases List.mem_cons.mp hk with e | hk
      · cases e; exact h _ List.mem_cons_self
      · exact lo_cm (fun q hq => h q (List.mem_cons_of_mem _ hq)) k hk
theorem lo_drop {n : Nat} {ks : List Nat} (h : ∀ k ∈ ks, k < n) : Lo n ((cm ks).drop 1) := fun k hk => lo_cm h k (List.mem_of_mem_drop hk)
theorem lo_call {m : Nat} {n : Str} {ks : List Nat} (h : ∀ k ∈ ks, k < m) : Lo m (parts (.call n ks)) := fun k hk => by
  have hk : Pt.ix k ∈ (Pt.tk n :: Pt.tk "(" :: ((cm ks).drop 1 ++ [.tk ")"])) := hk
  rcases List.mem_cons.mp hk with e | hk
  · cases e
  · rcases List.mem_cons.mp hk with e | hk
    · cases e
    · rcases List.mem_append.mp hk with hk | hk
      · exact lo_drop h k hk
      · rcases List.mem_singleton.mp hk
theorem lo_meth {m : Nat} {n : Str} {k0 : Nat} {ks : List Nat} (h0 : k0 < m) (h : ∀ k ∈ ks, k < m) : Lo m (parts (.meth n k0 ks)) := fun k hk => by
  have hk : Pt.ix k ∈ (Pt.ix k0 :: Pt.tk "." :: Pt.tk n :: Pt.tk "(" :: ((cm ks).drop 1 ++ [.tk ")"])) := hk
  rcases List.mem_cons.mp hk with e | hk
  · cases e; exact h0
  · rcases List.mem_cons.mp hk with e | hk
    · cases e
    · rcases List.mem_cons.mp hk with e | hk
      · cases e
      · rcases List.mem_cons.mp hk with e | hk
        · cases e
        · rcases List.mem_append.mp hk with hk | hk
          · exact lo_drop h k hk
          · rcases List.mem_singleton.mp hk
theorem lo_oper {m : Nat} {s : Str} {i j : Nat} (hi : i < m) (hj : j < m) : Lo m (parts (.oper s i j)) := fun k hk => by
  have hk : Pt.ix k ∈ [Pt.tk "(", .ix i, .tk s, .ix j, .tk ")"] := hk
  simp only [List.mem_cons, List.not_mem_nil, or_false, Pt.ix.injEq, reduceCtorEq, false_or] at hk
  rcases hk with rfl | rfl
  · exact hi
  · exact hj
section
variable {Q : Vl → Prop} {E : VX → Prop}
def numV (m : Nat) (y : Vl) : Prop := ∃ k : Nat, y = .int (k : Nat) ∧ k < m
theorem numV_all {m : Nat} : ∀ {ys : List Vl}, (∀ y ∈ ys, numV m y) → ∃ ks : List Nat, ys = nums ks ∧ ∀ k ∈ ks, k < m
  | [], _ => ⟨[], rfl, fun _ h => nomatch h⟩
  | y :: ys, h => by
    obtain ⟨k, rfl, hk⟩ := h y List.mem_cons_self
    obtain ⟨ks, rfl, hs⟩ := numV_all fun z hz => h z (List.mem_cons_of_mem _ hz)
    exact ⟨k :: ks, rfl, fun x hx => by
      rcases List.mem_cons.mp hx with rfl | hx
      · exact hk
      · exact hs x hx⟩
def stN : VM := vCB tupleOfV (vCons (vLc (viRg1 (vCons (vVar 3) (vNil))) (.nm 6) (vtTrue) (vCall 2 V__law_pick (vCons (vVar 0) (vCons (vLst (vCons (vBin subV (vPk 1) (vC (.int 1))) (vCons (vCall 2 vDraw (vCons (vVar 0) (vCons (vVar 1) (vNil)))) (vNil)))) (vNil)))) [6]) (vNil))
/-- the numbers of a step -/
theorem k_stN {m n : Nat} {s : VS} {o4 o5 o6 : Option VS} (hm : 0 < m) (h1 : m < 1000) (hn : n ≤ 4) (q : ∀ ks : List Nat, ks.length = n → (∀ k ∈ ks, k < m) → Q (.tup (nums ks))) :
    stN [some (.sh .hand), some (.sh (.int (m : Nat))), some s, some (.sh (.int (n : Nat))), o4, o5, o6] Q E := by
  unfold stN
  simp -implicitDefEqProofs only [vSeq, vSet, vDrop, vRet, vRetV, vRetN, vNext, vBreak, vCont, vIfS, vPar, vAsg, vCall, vCallK, vCallB, vCons, vNil, vVar, vPk, vC, vBin, vUn, vCB, vMt, vTest, vTru, vtAnd, vtOr, vtNot, vtTrue, vIf, vAnd, vOr, vNot, vChain, vTup, vLst, vSl, voNone, voSome, viAny, viRg1, viRg2, vFor, vLc, vRaise, DL.mk, Bool.false_and, Bool.true_and, isC, List.getElem?_cons_zero, List.getElem?_cons_succ, List.set_cons_zero, List.set_cons_succ, vO_some, vO_none, if_true, if_false, Bool.false_eq_true, Bool.not_true, Bool.not_false]
  refine ⟨by unfold inR; simp only [Bool.and_eq_true, decide_eq_true_eq]; omega, by unfold intsV; rw [List.length_map, List.length_range]; omega, ?_⟩
  refine lc_each (Pv := numV m) (fun _ h => nomatch h) (fun ys hy hl => ?_) fun v hv Q1 h => ?_
  · obtain ⟨ks, rfl, hk⟩ := numV_all hy
    have hl : ks.length = n := by simpa [intsV, nums] using hl
    show Q (.tup (nums ks))
    exact q ks hl hk
  · simp -implicitDefEqProofs only [Tg.putV, vSeq, vSet, vDrop, vRet, vRetV, vRetN, vNext, vBreak, vCont, vIfS, vPar, vAsg, vCall, vCallK, vCallB, vCons, vNil, vVar, vPk, vC, vBin, vUn, vCB, vMt, vTest, vTru, vtAnd, vtOr, vtNot, vtTrue, vIf, vAnd, vOr, vNot, vChain, vTup, vLst, vSl, voNone, voSome, viAny, viRg1, viRg2, vFor, vLc, vRaise, DL.mk, Bool.false_and, Bool.true_and, isC, List.getElem?_cons_zero, List.getElem?_cons_succ, List.set_cons_zero, List.set_cons_succ, vO_some, vO_none, if_true, if_false, Bool.false_eq_true, Bool.not_true, Bool.not_false, wipeV, vsub_i, List.length_cons, List.length_nil, Nat.zero_add, true_and, Nat.reduceAdd]
    refine k_draw (by omega) (by omega) fun i i0 i1 => ⟨by show 2 ≤ 16777216; decide, k_pick (by show 0 < 2; decide) (by show 2 < 1000; decide) fun v hv => h v ?_⟩
    rcases List.mem_cons.mp hv with rfl | hv
    · exact ⟨m - 1, by congr 1; omega, by omega⟩
    · rw [List.mem_singleton.mp hv]
      exact ⟨i.toNat, by congr 1; omega, by omega⟩
end
end K43

set_option maxHeartbeats 1000000
/-! steps that are drawn, on values -/
namespace K43
open PySem L2 DL
section
variable {Q : Vl → Prop} {E : VX → Prop}
theorem lo_tk {m : Nat} {x : Str} : Lo m (parts (.tk x)) := fun k hk => by
  rcases List.mem_singleton.mp (show Pt.ix k ∈ [Pt.tk x] from hk)
def stT : VSM := vRet (vTup (vCons (vC (.str "token")) (vCons (vCall 2 V__law_pick (vCons (vVar 0) (vCons (vLst (vCons (vC (.str "x")) (vCons (vC (.str "0")) (vCons (vC (.str "123456789")) (vCons (vC (.str "\"\"")) (vCons (vC (.str "\"a  z\"")) (vCons (vC (.str "zzzzzzzz")) (vCons (vC (.str "letx")) (vNil))))))))) (vNil)))) (vNil))))
theorem k_stT {m : Nat} {mv : VS} {a b c d e : Option VS} {P : VP} (q : ∀ s, Stp m s → P.rt (vS s)) : stT [some (.sh .hand), some mv, a, b, c, d, e] P := by
  unfold stT
  simp -implicitDefEqProofs only [vSeq, vSet, vDrop, vRet, vRetV, vRetN, vNext, vBreak, vCont, vIfS, vPar, vAsg, vCall, vCallK, vCallB, vCons, vNil, vVar, vPk, vC, vBin, vUn, vCB, vMt, vTest, vTru, vtAnd, vtOr, vtNot, vtTrue, vIf, vAnd, vOr, vNot, vChain, vTup, vLst, vSl, voNone, voSome, viAny, viRg1, viRg2, vFor, vLc, vRaise, DL.mk, Bool.false_and, Bool.true_and, isC, List.getElem?_cons_zero, List.getElem?_cons_succ, List.set_cons_zero, List.set_cons_succ, vO_some, vO_none, if_true, if_false, Bool.false_eq_true, Bool.not_true, Bool.not_false, List.length_cons, List.length_nil, Nat.zero_add, true_and, Nat.reduceAdd]
  refine ⟨by show 7 ≤ 16777216; decide, k_pick (by show 0 < 7; decide) (by show 7 < 1000; decide) fun v hv => ⟨by show 2 ≤ 16777216; decide, ?_⟩⟩
  have fin : ∀ x : Str, Tk x → P.rt (.tup [.str "token", .str x]) := fun x hx => q (.tk x) ⟨lo_tk, trivial, hx⟩
  simp only [List.mem_cons, List.not_mem_nil, or_false] at hv
  rcases hv with rfl | rfl | rfl | rfl | rfl | rfl | rfl <;> exact fin _ ⟨by decide, by decide +kernel⟩
def stZ : VSM := vRet (vTup (vCons (vVar 2) (vCons (vCall 2 V__law_pick (vCons (vVar 0) (vCons (vLst (vCons (vC (.str "f")) (vCons (vC (.str "call")) (vCons (vC (.str "token")) (vCons (vC (.str "g")) (vCons (vC (.str "method")) (vNil))))))) (vNil)))) (vCons (vVar 4) (vNil)))))
theorem k_stZ {w : Str} {mv tv : VS} {nv : Vl} {b d e : Option VS} {P : VP} (q : ∀ x : Str, Tk x → P.rt (.tup [.str w, .str x, nv])) : stZ [some (.sh .hand), some mv, some (.sh (.str w)), b, some (.sh nv), d, e] P := by
  unfold stZ
  simp -implicitDefEqProofs only [vSeq, vSet, vDrop, vRet, vRetV, vRetN, vNext, vBreak, vCont, vIfS, vPar, vAsg, vCall, vCallK, vCallB, vCons, vNil, vVar, vPk, vC, vBin, vUn, vCB, vMt, vTest, vTru, vtAnd, vtOr, vtNot, vtTrue, vIf, vAnd, vOr, vNot, vChain, vTup, vLst, vSl, voNone, voSome, viAny, viRg1, viRg2, vFor, vLc, vRaise, DL.mk, Bool.false_and, Bool.true_and, isC, List.getElem?_cons_zero, List.getElem?_cons_succ, List.set_cons_zero, List.set_cons_succ, vO_some, vO_none, if_true, if_false, Bool.false_eq_true, Bool.not_true, Bool.not_false, List.length_cons, List.length_nil, Nat.zero_add, true_and, Nat.reduceAdd]
  refine ⟨by show 5 ≤ 16777216; decide, k_pick (by show 0 < 5; decide) (by show 5 < 1000; decide) fun v hv => ⟨by show 3 ≤ 16777216; decide, ?_⟩⟩
  simp only [List.mem_cons, List.not_mem_nil, or_false] at hv
  rcases hv with rfl | rfl | rfl | rfl | rfl <;> exact q _ ⟨by decide, by decide +kernel⟩
end
end K43


set_option maxHeartbeats 1000000
/-! a step that is drawn -/
namespace K43
open PySem L2 DL
section
variable {Q : Vl → Prop} {E : VX → Prop}
def stO : VSM := wSeq (wSet false 5 (wCall 2 V__law_pick (wCons (vVar 0) (wCons (wLst (wCons (wC (.str "+")) (wCons (wC (.str "-")) (wCons (wC (.str "*")) (wCons (wC (.str "/")) (wCons (wC (.str "&")) (wCons (wC (.str "|")) (wCons (wC (.str "^")) (wNil))))))))) (wNil)))))
    (wRet (wTup (wCons (vVar 2) (wCons (vVar 5) (wCons (wTup (wCons (wCall 2 vDraw (wCons (vVar 0) (wCons (vVar 1) (wNil)))) (wCons (wCall 2 vDraw (wCons (vVar 0) (wCons (vVar 1) (wNil)))) (wNil)))) (wNil))))))
theorem k_stO {m : Nat} {b c d e : Option VS} {P : VP} (h0 : 0 < m) (h1 : m < 1000) (q : ∀ s, Stp m s → P.rt (vS s)) : stO [some (.sh .hand), some (.sh (.int (m : Nat))), some (.sh (.str "operator")), b, c, d, e] P := by
  have fin : ∀ (x : Str) (i j : Nat), Tk x → i < m → j < m → P.rt (.tup [.str "operator", .str x, .tup [.int (i : Nat), .int (j : Nat)]]) := fun x i j hx hi hj => q (.oper x i j) ⟨lo_oper hi hj, trivial, hx⟩
  unfold stO
  (repeat ((with_reducible conv => whnf); first | refine st_var rfl ?_ | refine st_pk rfl ?_ | refine st_pko rfl ?_ | with_reducible refine st_t ?_ | with_reducible refine st_f ?_ | with_reducible refine st_nt ?_ | with_reducible refine st_nf ?_ | refine st_O (vadd_i _ _) ?_ | refine st_O (vsub_i _ _) ?_ | refine st_O (veq_s _ _) ?_ | refine st_O (vne_s _ _) ?_ | refine st_O (veq_i _ _) ?_ | refine st_O (vle_i _ _) ?_ | ((with_reducible refine And.intro ?_ ?_); · first | rfl | (show _ ≤ 16777216; simp only [List.length_cons, List.length_nil]; decide)))); (with_reducible conv => whnf)
  refine k_pick (by simp only [List.length_cons, List.length_nil]; decide) (by simp only [List.length_cons, List.length_nil]; decide) fun v hv => ?_
  obtain ⟨x, rfl, hx⟩ : ∃ x, v = .str x ∧ Tk x := by
    simp only [List.mem_cons, List.not_mem_nil, or_false] at hv
    rcases hv with rfl | rfl | rfl | rfl | rfl | rfl | rfl <;> exact ⟨_, rfl, by decide, by decide +kernel⟩
  (repeat ((with_reducible conv => whnf); first | refine st_var rfl ?_ | refine st_pk rfl ?_ | refine st_pko rfl ?_ | with_reducible refine st_t ?_ | with_reducible refine st_f ?_ | with_reducible refine st_nt ?_ | with_reducible refine st_nf ?_ | refine st_O (vadd_i _ _) ?_ | refine st_O (vsub_i _ _) ?_ | refine st_O (veq_s _ _) ?_ | refine st_O (vne_s _ _) ?_ | refine st_O (veq_i _ _) ?_ | refine st_O (vle_i _ _) ?_ | ((with_reducible refine And.intro ?_ ?_); · first | rfl | (show _ ≤ 16777216; simp only [List.length_cons, List.length_nil]; decide)))); (with_reducible conv => whnf)
  refine k_draw (by omega) (by omega) fun i i0 i1 => ?_
  (repeat ((with_reducible conv => whnf); first | refine st_var rfl ?_ | refine st_pk rfl ?_ | refine st_pko rfl ?_ | with_reducible refine st_t ?_ | with_reducible refine st_f ?_ | with_reducible refine st_nt ?_ | with_reducible refine st_nf ?_ | refine st_O (vadd_i _ _) ?_ | refine st_O (vsub_i _ _) ?_ | refine st_O (veq_s _ _) ?_ | refine st_O (vne_s _ _) ?_ | refine st_O (veq_i _ _) ?_ | refine st_O (vle_i _ _) ?_ | ((with_reducible refine And.intro ?_ ?_); · first | rfl | (show _ ≤ 16777216; simp only [List.length_cons, List.length_nil]; decide)))); (with_reducible conv => whnf)
  refine k_draw (by omega) (by omega) fun j j0 j1 => ?_
  (repeat ((with_reducible conv => whnf); first | refine st_var rfl ?_ | refine st_pk rfl ?_ | refine st_pko rfl ?_ | with_reducible refine st_t ?_ | with_reducible refine st_f ?_ | with_reducible refine st_nt ?_ | with_reducible refine st_nf ?_ | refine st_O (vadd_i _ _) ?_ | refine st_O (vsub_i _ _) ?_ | refine st_O (veq_s _ _) ?_ | refine st_O (vne_s _ _) ?_ | refine st_O (veq_i _ _) ?_ | refine st_O (vle_i _ _) ?_ | ((with_reducible refine And.intro ?_ ?_); · first | rfl | (show _ ≤ 16777216; simp only [List.length_cons, List.length_nil]; decide)))); (with_reducible conv => whnf)
  have f := fin x i.toNat j.toNat hx (by omega) (by omega)
  rw [show ((i.toNat : Nat) : Int) = i by omega, show ((j.toNat : Nat) : Int) = j by omega] at f
  exact f
theorem k_step {m : Nat} (h1 : m < 1000) (q : ∀ s, Stp m s → Q (vS s)) : V__law_step [.hand, .int (m : Nat)] Q E := by
  have s7 : startV 7 [.hand, .int (m : Nat)] = [some (.sh .hand), some (.sh (.int (m : Nat))), none, none, none, none, none] := rfl
  have e1 : v__law_step = wSeq (wSet false 2 (wCall 2 V__law_pick (wCons (vVar 0) (wCons (wLst (wCons (wC (.str "token")) (wCons (wC (.str "call")) (wCons (wC (.str "method")) (wCons (wC (.str "operator")) (wNil)))))) (wNil)))))
    (wSeq (wIfS (wtOr (wTest (wBin DL.eqV (vPk 2) (wC (.str "token")))) (wTest (wBin DL.eqV (vPk 1) (wC (.int 0))))) stT (wNext))
    (wSeq (wIfS (wTest (wBin DL.eqV (vPk 2) (wC (.str "operator")))) stO (wNext))
    (wSeq (wSet false 3 (wIf (wTest (wBin DL.eqV (vPk 2) (wC (.str "call")))) (wCall 2 V__law_pick (wCons (vVar 0) (wCons (wLst (wCons (wC (.int 0)) (wCons (wC (.int 1)) (wCons (wC (.int 2)) (wCons (wC (.int 3)) (wCons (wC (.int 4)) (wNil))))))) (wNil)))) (wCall 2 V__law_pick (wCons (vVar 0) (wCons (wLst (wCons (wC (.int 1)) (wCons (wC (.int 1)) (wCons (wC (.int 2)) (wCons (wC (.int 3)) (wCons (wC (.int 4)) (wNil))))))) (wNil))))))
    (wSeq (wSet false 4 stN) stZ)))) := rfl
  unfold V__law_step vRun
  rw [s7, e1]
  (repeat ((with_reducible conv => whnf); first | refine st_var rfl ?_ | refine st_pk rfl ?_ | refine st_pko rfl ?_ | with_reducible refine st_t ?_ | with_reducible refine st_f ?_ | with_reducible refine st_nt ?_ | with_reducible refine st_nf ?_ | refine st_O (vadd_i _ _) ?_ | refine st_O (vsub_i _ _) ?_ | refine st_O (veq_s _ _) ?_ | refine st_O (vne_s _ _) ?_ | refine st_O (veq_i _ _) ?_ | refine st_O (vle_i _ _) ?_ | ((with_reducible refine And.intro ?_ ?_); · first | rfl | (show _ ≤ 16777216; simp only [List.length_cons, List.length_nil]; decide)))); (with_reducible conv => whnf)
  refine k_pick (by simp only [List.length_cons, List.length_nil]; decide) (by simp only [List.length_cons, List.length_nil]; decide) fun v hv => ?_
  obtain ⟨w, rfl, hw⟩ : ∃ w : Str, v = .str w ∧ (w = "token" ∨ w = "call" ∨ w = "method" ∨ w = "operator") := by
    simp only [List.mem_cons, List.not_mem_nil, or_false] at hv
    rcases hv with rfl | rfl | rfl | rfl <;> exact ⟨_, rfl, by decide⟩
  (repeat ((with_reducible conv => whnf); first | refine st_var rfl ?_ | refine st_pk rfl ?_ | refine st_pko rfl ?_ | with_reducible refine st_t ?_ | with_reducible refine st_f ?_ | with_reducible refine st_nt ?_ | with_reducible refine st_nf ?_ | refine st_O (vadd_i _ _) ?_ | refine st_O (vsub_i _ _) ?_ | refine st_O (veq_s _ _) ?_ | refine st_O (vne_s _ _) ?_ | refine st_O (veq_i _ _) ?_ | refine st_O (vle_i _ _) ?_ | ((with_reducible refine And.intro ?_ ?_); · first | rfl | (show _ ≤ 16777216; simp only [List.length_cons, List.length_nil]; decide)))); (with_reducible conv => whnf)
  have tok : ∀ {P : VP} {w : Str} {a b c d : Option VS}, (∀ s, Stp m s → P.rt (vS s)) → stT [some (.sh .hand), some (.sh (.int (m : Nat))), some (.sh (.str w)), a, b, c, d] P := fun q => k_stT q
  refine st_d (fun ht => ?_) fun ht => ?_
  · (repeat ((with_reducible conv => whnf); first | refine st_var rfl ?_ | refine st_pk rfl ?_ | refine st_pko rfl ?_ | with_reducible refine st_t ?_ | with_reducible refine st_f ?_ | with_reducible refine st_nt ?_ | with_reducible refine st_nf ?_ | refine st_O (vadd_i _ _) ?_ | refine st_O (vsub_i _ _) ?_ | refine st_O (veq_s _ _) ?_ | refine st_O (vne_s _ _) ?_ | refine st_O (veq_i _ _) ?_ | refine st_O (vle_i _ _) ?_ | ((with_reducible refine And.intro ?_ ?_); · first | rfl | (show _ ≤ 16777216; simp only [List.length_cons, List.length_nil]; decide)))); (with_reducible conv => whnf)
    exact tok q
  · (repeat ((with_reducible conv => whnf); first | refine st_var rfl ?_ | refine st_pk rfl ?_ | refine st_pko rfl ?_ | with_reducible refine st_t ?_ | with_reducible refine st_f ?_ | with_reducible refine st_nt ?_ | with_reducible refine st_nf ?_ | refine st_O (vadd_i _ _) ?_ | refine st_O (vsub_i _ _) ?_ | refine st_O (veq_s _ _) ?_ | refine st_O (vne_s _ _) ?_ | refine st_O (veq_i _ _) ?_ | refine st_O (vle_i _ _) ?_ | ((with_reducible refine And.intro ?_ ?_); · first | rfl | (show _ ≤ 16777216; simp only [List.length_cons, List.length_nil]; decide)))); (with_reducible conv => whnf)
    refine st_d (fun hm => ?_) fun hm => ?_
    · exact tok q
    · have h0 : 0 < m := by omega
      (repeat ((with_reducible conv => whnf); first | refine st_var rfl ?_ | refine st_pk rfl ?_ | refine st_pko rfl ?_ | with_reducible refine st_t ?_ | with_reducible refine st_f ?_ | with_reducible refine st_nt ?_ | with_reducible refine st_nf ?_ | refine st_O (vadd_i _ _) ?_ | refine st_O (vsub_i _ _) ?_ | refine st_O (veq_s _ _) ?_ | refine st_O (vne_s _ _) ?_ | refine st_O (veq_i _ _) ?_ | refine st_O (vle_i _ _) ?_ | ((with_reducible refine And.intro ?_ ?_); · first | rfl | (show _ ≤ 16777216; simp only [List.length_cons, List.length_nil]; decide)))); (with_reducible conv => whnf)
      refine st_d (fun ho => ?_) fun ho => ?_
      · subst ho
        exact k_stO h0 h1 q
      · (repeat ((with_reducible conv => whnf); first | refine st_var rfl ?_ | refine st_pk rfl ?_ | refine st_pko rfl ?_ | with_reducible refine st_t ?_ | with_reducible refine st_f ?_ | with_reducible refine st_nt ?_ | with_reducible refine st_nf ?_ | refine st_O (vadd_i _ _) ?_ | refine st_O (vsub_i _ _) ?_ | refine st_O (veq_s _ _) ?_ | refine st_O (vne_s _ _) ?_ | refine st_O (veq_i _ _) ?_ | refine st_O (vle_i _ _) ?_ | ((with_reducible refine And.intro ?_ ?_); · first | rfl | (show _ ≤ 16777216; simp only [List.length_cons, List.length_nil]; decide)))); (with_reducible conv => whnf)
        refine st_d (fun hc => ?_) fun hc => ?_
        · subst hc
          (repeat ((with_reducible conv => whnf); first | refine st_var rfl ?_ | refine st_pk rfl ?_ | refine st_pko rfl ?_ | with_reducible refine st_t ?_ | with_reducible refine st_f ?_ | with_reducible refine st_nt ?_ | with_reducible refine st_nf ?_ | refine st_O (vadd_i _ _) ?_ | refine st_O (vsub_i _ _) ?_ | refine st_O (veq_s _ _) ?_ | refine st_O (vne_s _ _) ?_ | refine st_O (veq_i _ _) ?_ | refine st_O (vle_i _ _) ?_ | ((with_reducible refine And.intro ?_ ?_); · first | rfl | (show _ ≤ 16777216; simp only [List.length_cons, List.length_nil]; decide)))); (with_reducible conv => whnf)
          refine k_pick (by simp only [List.length_cons, List.length_nil]; decide) (by simp only [List.length_cons, List.length_nil]; decide) fun v hv => ?_
          obtain ⟨n, rfl, hn⟩ : ∃ n : Nat, v = .int (n : Nat) ∧ n ≤ 4 := by
            simp only [List.mem_cons, List.not_mem_nil, or_false] at hv
            rcases hv with rfl | rfl | rfl | rfl | rfl <;> exact ⟨_, rfl, by decide⟩
          refine k_stN h0 h1 hn fun ks hl hk => ?_
          refine k_stZ (tv := .sh .non) (b := some (.sh (.int (n : Nat)))) fun x hx => q (.call x ks) ⟨lo_call hk, by show ks.length ≤ 900; omega, hx⟩
        · have hw : w = "method" := by
            rcases hw with h | h | h | h
            · exact absurd h ht
            · exact absurd h hc
            · exact h
            · exact absurd h ho
          subst hw
          (repeat ((with_reducible conv => whnf); first | refine st_var rfl ?_ | refine st_pk rfl ?_ | refine st_pko rfl ?_ | with_reducible refine st_t ?_ | with_reducible refine st_f ?_ | with_reducible refine st_nt ?_ | with_reducible refine st_nf ?_ | refine st_O (vadd_i _ _) ?_ | refine st_O (vsub_i _ _) ?_ | refine st_O (veq_s _ _) ?_ | refine st_O (vne_s _ _) ?_ | refine st_O (veq_i _ _) ?_ | refine st_O (vle_i _ _) ?_ | ((with_reducible refine And.intro ?_ ?_); · first | rfl | (show _ ≤ 16777216; simp only [List.length_cons, List.length_nil]; decide)))); (with_reducible conv => whnf)
          refine k_pick (by simp only [List.length_cons, List.length_nil]; decide) (by simp only [List.length_cons, List.length_nil]; decide) fun v hv => ?_
          obtain ⟨n, rfl, hn, hp⟩ : ∃ n : Nat, v = .int (n : Nat) ∧ n ≤ 4 ∧ 0 < n := by
            simp only [List.mem_cons, List.not_mem_nil, or_false] at hv
            rcases hv with rfl | rfl | rfl | rfl | rfl <;> exact ⟨_, rfl, by decide, by decide⟩
          refine k_stN h0 h1 hn fun ks hl hk => ?_
          cases ks with
          | nil => simp at hl; omega
          | cons k ks =>
            rw [List.length_cons] at hl
            refine k_stZ (tv := .sh .non) (b := some (.sh (.int (n : Nat)))) fun x hx => q (.meth x k ks) ⟨lo_meth (hk _ List.mem_cons_self) fun z hz => hk z (List.mem_cons_of_mem _ hz), by show ks.length ≤ 900; omega, hx⟩
end
end K43

set_option maxHeartbeats 1000000
/-! rows that are drawn -/
namespace K43
open PySem L2 DL
structure Dr (rows : List Sp) : Prop where
  rw_ : Rw rows
  bd : Bd rows
  tk : ∀ s ∈ rows, Tks s
theorem Dr.nil : Dr [] := ⟨⟨(fun m s h => nomatch h), (fun s h => nomatch h), Nat.zero_le _⟩, (fun x h => nomatch (show x ∈ [] from h)), (fun s h => nomatch h)⟩
theorem Dr.snoc {rows : List Sp} {s : Sp} (h : Dr rows) (hs : Stp rows.length s) (hn : rows.length < 1000) (hl : (exp (tab rows) (parts s)).length ≤ 600) : Dr (rows ++ [s]) := by
  refine ⟨⟨fun m t ht => ?_, fun t ht => ?_, ?_⟩, fun x hx => ?_, fun t ht => ?_⟩
  · by_cases hm : m < rows.length
    · rw [List.getElem?_append_left hm] at ht
      exact h.rw_.wf m t ht
    · rw [List.getElem?_append_right (by omega)] at ht
      have h1 := (List.getElem?_eq_some_iff.mp ht).1
      rw [List.length_cons, List.length_nil] at h1
      have h2 : m = rows.length := by omega
      subst h2
      rw [Nat.sub_self] at ht
      cases ht
      exact hs.lo
  · rcases List.mem_append.mp ht with ht | ht
    · exact h.rw_.sm t ht
    · rw [List.mem_singleton.mp ht]; exact hs.sm
  · rw [List.length_append, List.length_cons, List.length_nil]; omega
  · rw [tab_snoc] at hx
    rcases List.mem_append.mp hx with hx | hx
    · exact h.bd x hx
    · rw [List.mem_singleton.mp hx]; exact hl
  · rcases List.mem_append.mp ht with ht | ht
    · exact h.tk t ht
    · rw [List.mem_singleton.mp ht]; exact hs.tk
section
variable {Q : Vl → Prop} {E : VX → Prop}
def rwB : VSM := wSeq (wSet false 4 (wCall 2 V__law_step (wCons (vVar 0) (wCons (wCB lenV (wCons (vPk 2) (wNil))) (wNil)))))
    (wIfS (wTest (wBin leV (wCallB 2 V__law_size (wCons (vPk 4) (wCons (vPk 3) (wNil)))) (wC (.int 600)))) (wSeq (wApp 2 (vVar 4))
    (wApp 3 (wCallB 2 V__law_size (wCons (vPk 4) (wCons (vPk 3) (wNil)))))) (wNext))
def rwE (rows : List Sp) (a b : Option VS) : VEnv := [some (.sh .hand), a, some (.ow (.lst (rows.map vS))), some (.ow (.lst (nums (lens (tab rows))))), b]
theorem k_rwB {rows : List Sp} {a b : Option VS} {P : VP} (h : Dr rows) (hn : rows.length < 900) (q : ∀ rows' b, Dr rows' → rows'.length ≤ rows.length + 1 → 0 < rows'.length → P.nx (rwE rows' a b)) : rwB (rwE rows a b) P := by
  unfold rwB rwE
  (repeat ((with_reducible conv => whnf); first | refine st_var rfl ?_ | refine st_pk rfl ?_ | refine st_pko rfl ?_ | with_reducible refine st_t ?_ | with_reducible refine st_f ?_ | with_reducible refine st_nt ?_ | with_reducible refine st_nf ?_ | refine st_O (vadd_i _ _) ?_ | refine st_O (vsub_i _ _) ?_ | refine st_O (veq_s _ _) ?_ | refine st_O (vne_s _ _) ?_ | refine st_O (veq_i _ _) ?_ | refine st_O (vle_i _ _) ?_ | ((with_reducible refine And.intro ?_ ?_); · first | rfl | (show _ ≤ 16777216; simp only [List.length_cons, List.length_nil]; decide)))); (with_reducible conv => whnf)
  have ll : lenV [.lst (rows.map vS)] = some (.int (rows.length : Nat)) := by show some (Vl.int _) = _; rw [List.length_map]
  refine st_O ll ?_
  (repeat ((with_reducible conv => whnf); first | refine st_var rfl ?_ | refine st_pk rfl ?_ | refine st_pko rfl ?_ | with_reducible refine st_t ?_ | with_reducible refine st_f ?_ | with_reducible refine st_nt ?_ | with_reducible refine st_nf ?_ | refine st_O (vadd_i _ _) ?_ | refine st_O (vsub_i _ _) ?_ | refine st_O (veq_s _ _) ?_ | refine st_O (vne_s _ _) ?_ | refine st_O (veq_i _ _) ?_ | refine st_O (vle_i _ _) ?_ | ((with_reducible refine And.intro ?_ ?_); · first | rfl | (show _ ≤ 16777216; simp only [List.length_cons, List.length_nil]; decide)))); (with_reducible conv => whnf)
  refine k_step (by omega) fun s hs => ?_
  have lt : (lens (tab rows)).length = rows.length := by unfold lens; rw [List.length_map, tab_len]
  have sz1 : sz (lens (tab rows)) s = (exp (tab rows) (parts s)).length := lenP_exp _ _
  (repeat ((with_reducible conv => whnf); first | refine st_var rfl ?_ | refine st_pk rfl ?_ | refine st_pko rfl ?_ | with_reducible refine st_t ?_ | with_reducible refine st_f ?_ | with_reducible refine st_nt ?_ | with_reducible refine st_nf ?_ | refine st_O (vadd_i _ _) ?_ | refine st_O (vsub_i _ _) ?_ | refine st_O (veq_s _ _) ?_ | refine st_O (vne_s _ _) ?_ | refine st_O (veq_i _ _) ?_ | refine st_O (vle_i _ _) ?_ | ((with_reducible refine And.intro ?_ ?_); · first | rfl | (show _ ≤ 16777216; simp only [List.length_cons, List.length_nil]; decide)))); (with_reducible conv => whnf)
  refine k_size hs.sm (by rw [lt]; exact hs.lo) ?_
  rw [sz1]
  (repeat ((with_reducible conv => whnf); first | refine st_var rfl ?_ | refine st_pk rfl ?_ | refine st_pko rfl ?_ | with_reducible refine st_t ?_ | with_reducible refine st_f ?_ | with_reducible refine st_nt ?_ | with_reducible refine st_nf ?_ | refine st_O (vadd_i _ _) ?_ | refine st_O (vsub_i _ _) ?_ | refine st_O (veq_s _ _) ?_ | refine st_O (vne_s _ _) ?_ | refine st_O (veq_i _ _) ?_ | refine st_O (vle_i _ _) ?_ | ((with_reducible refine And.intro ?_ ?_); · first | rfl | (show _ ≤ 16777216; simp only [List.length_cons, List.length_nil]; decide)))); (with_reducible conv => whnf)
  refine st_d (fun hl => ?_) fun hl => ?_
  · (repeat ((with_reducible conv => whnf); first | refine st_var rfl ?_ | refine st_pk rfl ?_ | refine st_pko rfl ?_ | with_reducible refine st_t ?_ | with_reducible refine st_f ?_ | with_reducible refine st_nt ?_ | with_reducible refine st_nf ?_ | refine st_O (vadd_i _ _) ?_ | refine st_O (vsub_i _ _) ?_ | refine st_O (veq_s _ _) ?_ | refine st_O (vne_s _ _) ?_ | refine st_O (veq_i _ _) ?_ | refine st_O (vle_i _ _) ?_ | ((with_reducible refine And.intro ?_ ?_); · first | rfl | (show _ ≤ 16777216; simp only [List.length_cons, List.length_nil]; decide)))); (with_reducible conv => whnf)
    refine st_O (r := rows.map vS) rfl ?_
    (repeat ((with_reducible conv => whnf); first | refine st_var rfl ?_ | refine st_pk rfl ?_ | refine st_pko rfl ?_ | with_reducible refine st_t ?_ | with_reducible refine st_f ?_ | with_reducible refine st_nt ?_ | with_reducible refine st_nf ?_ | refine st_O (vadd_i _ _) ?_ | refine st_O (vsub_i _ _) ?_ | refine st_O (veq_s _ _) ?_ | refine st_O (vne_s _ _) ?_ | refine st_O (veq_i _ _) ?_ | refine st_O (vle_i _ _) ?_ | ((with_reducible refine And.intro ?_ ?_); · first | rfl | (show _ ≤ 16777216; simp only [List.length_cons, List.length_nil]; decide)))); (with_reducible conv => whnf)
    refine ⟨by rw [List.length_map]; show _ < 16777216; omega, ?_⟩
    (with_reducible conv => whnf)
    refine st_O (r := nums (lens (tab rows))) rfl ?_
    (repeat ((with_reducible conv => whnf); first | refine st_var rfl ?_ | refine st_pk rfl ?_ | refine st_pko rfl ?_ | with_reducible refine st_t ?_ | with_reducible refine st_f ?_ | with_reducible refine st_nt ?_ | with_reducible refine st_nf ?_ | refine st_O (vadd_i _ _) ?_ | refine st_O (vsub_i _ _) ?_ | refine st_O (veq_s _ _) ?_ | refine st_O (vne_s _ _) ?_ | refine st_O (veq_i _ _) ?_ | refine st_O (vle_i _ _) ?_ | ((with_reducible refine And.intro ?_ ?_); · first | rfl | (show _ ≤ 16777216; simp only [List.length_cons, List.length_nil]; decide)))); (with_reducible conv => whnf)
    refine k_size hs.sm (by rw [lt]; exact hs.lo) ?_
    rw [sz1]
    refine ⟨rfl, by unfold nums; rw [List.length_map, lt]; show _ < 16777216; omega, ?_⟩
    have := q (rows ++ [s]) (some (.sh (vS s))) (h.snoc hs (by omega) (by omega)) (by rw [List.length_append, List.length_cons, List.length_nil]; omega) (by rw [List.length_append, List.length_cons, List.length_nil]; omega)
    unfold rwE at this
    rw [List.map_append, tab_snoc, lens_snoc, nums_snoc] at this
    exact this
  · have h0 : 0 < rows.length := by
      cases rows with
      | nil =>
        cases s with
        | tk x => exact absurd (show ((exp (tab []) (parts (.tk x))).length : Int) ≤ 600 by show ((1 : Nat) : Int) ≤ 600; decide) hl
        | call n ks =>
          cases ks with
          | nil => exact absurd (show ((exp (tab []) (parts (.call n []))).length : Int) ≤ 600 by show ((3 : Nat) : Int) ≤ 600; decide) hl
          | cons k r => exact absurd (hs.lo k (by simp [parts, cm])) (Nat.not_lt_zero _)
        | meth n k ks => exact absurd (hs.lo k (by simp [parts])) (Nat.not_lt_zero _)
        | oper n i j => exact absurd (hs.lo i (by simp [parts])) (Nat.not_lt_zero _)
      | cons s r => rw [List.length_cons]; omega
    exact q rows (some (.sh (vS s))) h (by omega) h0
theorem k_rows (q : ∀ rows, Dr rows → rows.length ≤ 12 → 0 < rows.length → Q (vR rows)) : V__law_rows [.hand] Q E := by
  have s5 : startV 5 [.hand] = [some (.sh .hand), none, none, none, none] := rfl
  have bdy : v__law_rows = wSeq (wPar true true 2 3 (wLst (wNil)) (wLst (wNil)))
    (wSeq (wFor (wiRg1 (wCons (wBin addV (wC (.int 1)) (wCall 2 vDraw (wCons (vVar 0) (wCons (wC (.int 12)) (wNil))))) (wNil))) (.nm 1) rwB)
    (wRet (wCB tupleOfV (wCons (vPk 2) (wNil))))) := rfl
  unfold V__law_rows vRun
  rw [s5, bdy]
  (repeat ((with_reducible conv => whnf); first | refine st_var rfl ?_ | refine st_pk rfl ?_ | refine st_pko rfl ?_ | with_reducible refine st_t ?_ | with_reducible refine st_f ?_ | with_reducible refine st_nt ?_ | with_reducible refine st_nf ?_ | refine st_O (vadd_i _ _) ?_ | refine st_O (vsub_i _ _) ?_ | refine st_O (veq_s _ _) ?_ | refine st_O (vne_s _ _) ?_ | refine st_O (veq_i _ _) ?_ | refine st_O (vle_i _ _) ?_ | ((with_reducible refine And.intro ?_ ?_); · first | rfl | (show _ ≤ 16777216; simp only [List.length_cons, List.length_nil]; decide)))); (with_reducible conv => whnf)
  refine k_draw (by decide) (by decide) fun i i0 i1 => ?_
  (repeat ((with_reducible conv => whnf); first | refine st_var rfl ?_ | refine st_pk rfl ?_ | refine st_pko rfl ?_ | with_reducible refine st_t ?_ | with_reducible refine st_f ?_ | with_reducible refine st_nt ?_ | with_reducible refine st_nf ?_ | refine st_O (vadd_i _ _) ?_ | refine st_O (vsub_i _ _) ?_ | refine st_O (veq_s _ _) ?_ | refine st_O (vne_s _ _) ?_ | refine st_O (veq_i _ _) ?_ | refine st_O (vle_i _ _) ?_ | ((with_reducible refine And.intro ?_ ?_); · first | rfl | (show _ ≤ 16777216; simp only [List.length_cons, List.length_nil]; decide)))); (with_reducible conv => whnf)
  refine rg_go (by omega) (by omega) fun _ => ?_
  refine loop_at (J := fun j e => ∃ rows a b, Dr rows ∧ rows.length ≤ j ∧ (0 < j → 0 < rows.length) ∧ e = rwE rows a b) _ 0 ⟨[], none, none, Dr.nil, Nat.le_refl _, (fun h => absurd h (Nat.lt_irrefl _)), rfl⟩ (fun j v env K hj hJ hK => ?_) fun e he => ?_
  · obtain ⟨rows, a, b, h, hl, h0, rfl⟩ := hJ
    have hj' := (List.getElem?_eq_some_iff.mp hj).1
    rw [intsV_len] at hj'
    refine st_O (r := rwE rows (some (.sh v)) b) rfl ?_
    exact k_rwB h (by omega) fun rows' b' h' hl' h0' => hK _ ⟨rows', _, b', h', by omega, fun _ => h0', rfl⟩
  · obtain ⟨rows, a, b, h, hl, h0, rfl⟩ := he
    rw [intsV_len] at hl h0
    unfold rwE
    (repeat ((with_reducible conv => whnf); first | refine st_var rfl ?_ | refine st_pk rfl ?_ | refine st_pko rfl ?_ | with_reducible refine st_t ?_ | with_reducible refine st_f ?_ | with_reducible refine st_nt ?_ | with_reducible refine st_nf ?_ | refine st_O (vadd_i _ _) ?_ | refine st_O (vsub_i _ _) ?_ | refine st_O (veq_s _ _) ?_ | refine st_O (vne_s _ _) ?_ | refine st_O (veq_i _ _) ?_ | refine st_O (vle_i _ _) ?_ | ((with_reducible refine And.intro ?_ ?_); · first | rfl | (show _ ≤ 16777216; simp only [List.length_cons, List.length_nil]; decide)))); (with_reducible conv => whnf)
    refine st_O (r := vR rows) rfl ?_
    exact q rows h (by omega) (h0 (by omega))
end
end K43

set_option maxHeartbeats 1000000
/-! what is asked of rows and pieces -/
namespace K43
open PySem L2 DL
theorem mem_exp {T : List (List Str)} {y : Str} : ∀ {ps : List Pt}, y ∈ exp T ps → Pt.tk y ∈ ps ∨ ∃ k, Pt.ix k ∈ ps ∧ y ∈ T.getD k []
  | [], h => nomatch h
  | .tk x :: r, h => by
    rcases List.mem_cons.mp (show y ∈ x :: exp T r from h) with rfl | h
    · exact .inl List.mem_cons_self
    · rcases mem_exp h with h | ⟨k, h, g⟩
      · exact .inl (List.mem_cons_of_mem _ h)
      · exact .inr ⟨k, List.mem_cons_of_mem _ h, g⟩
  | .ix k :: r, h => by
    rcases List.mem_append.mp (show y ∈ T.getD k [] ++ exp T r from h) with h | h
    · exact .inr ⟨k, List.mem_cons_self, h⟩
    · rcases mem_exp h with h | ⟨k, h, g⟩
      · exact .inl (List.mem_cons_of_mem _ h)
      · exact .inr ⟨k, List.mem_cons_of_mem _ h, g⟩
theorem tk_cm {y : Str} {ks : List Nat} (h : Pt.tk y ∈ (cm ks).drop 1) : y = Str.ofString "," := by
  have h := List.mem_of_mem_drop h
  unfold cm at h
  obtain ⟨k, _, h⟩ := List.mem_flatMap.mp h
  rcases List.mem_cons.mp h with h | h
  · cases h; rfl
  · rcases List.mem_singleton.mp h
theorem tk_c : Tk (Str.ofString ",") := ⟨by decide, by decide +kernel⟩
theorem tk_l : Tk (Str.ofString "(") := ⟨by decide, by decide +kernel⟩
theorem tk_r : Tk (Str.ofString ")") := ⟨by decide, by decide +kernel⟩
theorem tk_d : Tk (Str.ofString ".") := ⟨by decide, by decide +kernel⟩
theorem tk_parts {s : Sp} (hs : Tks s) {y : Str} (h : Pt.tk y ∈ parts s) : Tk y := by
  cases s with
  | tk x =>
    rcases List.mem_singleton.mp (show Pt.tk y ∈ [Pt.tk x] from h) with h
    cases h; exact hs
  | call n ks =>
    have h : Pt.tk y ∈ (Pt.tk n :: Pt.tk "(" :: ((cm ks).drop 1 ++ [.tk ")"])) := h
    rcases List.mem_cons.mp h with h | h
    · cases h; exact hs
    · rcases List.mem_cons.mp h with h | h
      · cases h; exact tk_l
      · rcases List.mem_append.mp h with h | h
        · rw [tk_cm h]; exact tk_c
        · cases List.mem_singleton.mp h; exact tk_r
  | meth n k ks =>
    have h : Pt.tk y ∈ (Pt.ix k :: Pt.tk "." :: Pt.tk n :: Pt.tk "(" :: ((cm ks).drop 1 ++ [.tk ")"])) := h
    rcases List.mem_cons.mp h with h | h
    · cases h
    · rcases List.mem_cons.mp h with h | h
      · cases h; exact tk_d
      · rcases List.mem_cons.mp h with h | h
        · cases h; exact hs
        · rcases List.mem_cons.mp h with h | h
          · cases h; exact tk_l
          · rcases List.mem_append.mp h with h | h
            · rw [tk_cm h]; exact tk_c
            · cases List.mem_singleton.mp h; exact tk_r
  | oper n i j =>
    have h : Pt.tk y ∈ [Pt.tk "(", .ix i, .tk n, .ix j, .tk ")"] := h
    simp only [List.mem_cons, List.not_mem_nil, or_false, Pt.tk.injEq, reduceCtorEq, false_or] at h
    rcases h with rfl | rfl | rfl
    · exact tk_l
    · exact hs
    · exact tk_r
theorem tk_tab {rows : List Sp} (h : Dr rows) : ∀ n m, m < n → ∀ y ∈ (tab rows).getD m [], Tk y
  | 0, m, hm, _, _ => absurd hm (Nat.not_lt_zero _)
  | n + 1, m, hm, y, hy => by
    cases e : rows[m]? with
    | none =>
      have : (tab rows)[m]? = none := by
        rw [List.getElem?_eq_none_iff] at e ⊢
        rw [tab_len]; exact e
      rw [List.getD_eq_getElem?_getD, this] at hy
      cases hy
    | some s =>
      rw [tab_at h.rw_.wf e] at hy
      rcases mem_exp hy with hy | ⟨k, hk, hy⟩
      · exact tk_parts (h.tk s (List.mem_of_getElem? e)) hy
      · exact tk_tab h n k (by have := h.rw_.wf m s e k hk; omega) y hy
/-- pieces as they are drawn -/
structure Lo8 (n : Nat) (lot : List Pt) : Prop where
  lt : Lt n lot
  n : lot.length ≤ 8
  tk : ∀ x, Pt.tk x ∈ lot → Tk x
theorem due_tk {rows : List Sp} {lot : List Pt} (h : Dr rows) (hl : Lo8 rows.length lot) : ∀ y ∈ exp (tab rows) lot, Tk y := fun y hy => by
  rcases mem_exp hy with hy | ⟨k, hk, hy⟩
  · exact hl.tk y hy
  · exact tk_tab h _ k (Nat.lt_succ_self k) y hy
theorem exp_len {T : List (List Str)} (h : ∀ k, (T.getD k []).length ≤ 600) : ∀ ps : List Pt, (exp T ps).length ≤ 600 * ps.length
  | [] => Nat.le_refl _
  | .tk x :: r => by
    have := exp_len h r
    show (x :: exp T r).length ≤ 600 * (r.length + 1)
    rw [List.length_cons]; omega
  | .ix k :: r => by
    have := exp_len h r
    have := h k
    show (T.getD k [] ++ exp T r).length ≤ 600 * (r.length + 1)
    rw [List.length_append]; omega
theorem due_len {rows : List Sp} {lot : List Pt} (h : Dr rows) (hl : lot.length ≤ 8) : (exp (tab rows) lot).length ≤ 4800 := by
  have := exp_len (T := tab rows) (fun k => by
    have := getD_le h.bd (m := rows.length) k
    rwa [List.take_length] at this) lot
  omega
theorem Tk.sh {x : Str} (h : Tk x) : Sh 112 1 (.str x) := Sh.str (b := 11) h.1 h.2
theorem sh_due {ts : List Str} (h : ∀ y ∈ ts, Tk y) (hn : ts.length ≤ 4800) : ∃ s, reprV [.tup (ts.map .str)] = some (.str s) :=
  (Sh.tup (n := 112) (d := 1) fun v hv => by
    obtain ⟨x, hx, rfl⟩ := List.mem_map.mp hv
    exact (h x hx).sh).repr (by rw [List.length_map]; omega) (by decide)
theorem sh_one {n : Nat} (hn : n ≤ 4800) : ∃ s, reprV [.lst [.int (n : Nat)]] = some (.str s) :=
  (Sh.lst (n := 12) (d := 1) fun v hv => by
    rw [List.mem_singleton.mp hv]
    exact Sh.int (by omega)).repr (by show (12 + 2) * 1 + 3 ≤ _; decide) (by decide)
theorem sh_two {n : Nat} (hn : n ≤ 4800) : ∃ s, reprV [.lst [.int (n : Nat), .int (n : Nat)]] = some (.str s) :=
  (Sh.lst (n := 12) (d := 1) fun v hv => by
    simp only [List.mem_cons, List.not_mem_nil, or_false, or_self] at hv
    rw [hv]
    exact Sh.int (by omega)).repr (by show (12 + 2) * 2 + 3 ≤ _; decide) (by decide)
theorem sh_nums {ks : List Nat} (hk : ∀ k ∈ ks, k < 1000) (hn : ks.length ≤ 901) : Sh 12617 2 (.tup (nums ks)) :=
  (Sh.tup (n := 12) (d := 1) fun v hv => by
    unfold nums at hv
    obtain ⟨k, hm, rfl⟩ := List.mem_map.mp hv
    exact Sh.int (by have := hk k hm; omega)).mono (by unfold nums; rw [List.length_map]; omega) (by decide)
theorem sh_step {s : Sp} {n : Nat} (hn : n ≤ 1000) (h : Stp n s) : Sh 40000 3 (vS s) := by
  have w : ∀ x : Str, x.length ≤ 8 → (∀ c ∈ x.cps.toList, c < 4294967296) → Sh 12617 2 (.str x) := fun x a b => (Sh.str (b := 8) a b).mono (by decide) (by decide)
  have t : ∀ {x : Str}, Tk x → Sh 12617 2 (.str x) := fun h => h.sh.mono (by decide) (by decide)
  have three : ∀ (a b c : Vl), Sh 12617 2 a → Sh 12617 2 b → Sh 12617 2 c → Sh 40000 3 (.tup [a, b, c]) := fun a b c ha hb hc => (Sh.tup (n := 12617) (d := 2) fun v hv => by
    simp only [List.mem_cons, List.not_mem_nil, or_false] at hv
    rcases hv with rfl | rfl | rfl
    · exact ha
    · exact hb
    · exact hc).mono (by show (12617 + 2) * 3 + 3 ≤ _; decide) (Nat.le_refl _)
  have lo := h.lo
  have hs := h.sm
  have ht := h.tk
  cases s with
  | tk x =>
    exact (Sh.tup (n := 12617) (d := 2) fun v hv => by
      simp only [List.mem_cons, List.not_mem_nil, or_false] at hv
      rcases hv with rfl | rfl
      · exact w _ (by decide) (by decide +kernel)
      · exact t ht).mono (by show (12617 + 2) * 2 + 3 ≤ _; decide) (Nat.le_refl _)
  | call n ks =>
    have hs : ks.length ≤ 900 := hs
    refine three _ _ _ (w _ (by decide) (by decide +kernel)) (t ht) (sh_nums (fun k hk => ?_) (by omega))
    have := lo k (List.mem_cons_of_mem _ (List.mem_cons_of_mem _ (List.mem_append_left _ (ix_drop hk))))
    omega
  | meth n k ks =>
    have hs : ks.length ≤ 900 := hs
    refine three _ _ _ (w _ (by decide) (by decide +kernel)) (t ht) (sh_nums (fun z hz => ?_) (by rw [List.length_cons]; omega))
    rcases List.mem_cons.mp hz with rfl | hz
    · have := lo _ List.mem_cons_self; omega
    · have := lo z (List.mem_cons_of_mem _ (List.mem_cons_of_mem _ (List.mem_cons_of_mem _ (List.mem_cons_of_mem _ (List.mem_append_left _ (ix_drop hz)))))); omega
  | oper n i j =>
    refine three _ _ (.tup (nums [i, j])) (w _ (by decide) (by decide +kernel)) (t ht) (sh_nums (fun z hz => ?_) (by simp))
    simp only [List.mem_cons, List.not_mem_nil, or_false] at hz
    rcases hz with rfl | rfl
    · have := lo z (by simp [parts]); omega
    · have := lo z (by simp [parts]); omega
theorem sh_both {rows : List Sp} {lot : List Pt} (h : Dr rows) (hn : rows.length ≤ 12) (hl : Lo8 rows.length lot) : ∃ s, reprV [.lst [vR rows, vL lot]] = some (.str s) := by
  have a : Sh 480100 4 (vR rows) := (Sh.tup (n := 40000) (d := 3) fun v hv => by
    obtain ⟨s, hs, rfl⟩ := List.mem_map.mp hv
    obtain ⟨m, hm⟩ := List.getElem?_of_mem hs
    have h1 := (List.getElem?_eq_some_iff.mp hm).1
    exact sh_step (n := m) (by omega) ⟨h.rw_.wf m s hm, h.rw_.sm s hs, h.tk s hs⟩).mono (by rw [List.length_map]; omega) (Nat.le_refl _)
  have b : Sh 480100 4 (vL lot) := (Sh.tup (n := 112) (d := 1) fun v hv => by
    obtain ⟨p, hp, rfl⟩ := List.mem_map.mp hv
    cases p with
    | tk x => exact (hl.tk x hp).sh
    | ix k => exact (Sh.int (i := (k : Nat)) (by have := hl.lt.lo k hp; omega)).mono (by decide) (by decide)).mono (by rw [List.length_map]; have := hl.n; omega) (by decide)
  exact (Sh.lst (n := 480100) (d := 4) fun v hv => by
    simp only [List.mem_cons, List.not_mem_nil, or_false] at hv
    rcases hv with rfl | rfl
    · exact a
    · exact b).repr (by show (480100 + 2) * 2 + 3 ≤ _; decide) (by decide)
section
variable {Q : Vl → Prop} {E : VX → Prop}
def duB : VSM := wSet false 7 (wBin addV (vPk 7) (wIf (wTru (wCB isiV (wCons (vPk 3) (wCons (wC (.raw (.ty "str"))) (wNil))))) (wLst (wCons (vVar 3) (wNil))) (wBin ixV (vPk 6) (vPk 3))))
theorem k_duB {T : List (List Str)} {p : Pt} {ts : List Str} {e0 e1 e2 e4 e5 e8 e9 : Option VS} {P : VP} (hk : ∀ k, p = .ix k → k < T.length) (hn : ts.length + (exp T [p]).length ≤ 100000)
    (q : P.nx [e0, e1, e2, some (.sh (vP p)), e4, e5, some (.sh (.lst (T.map lS))), some (.sh (lS (ts ++ exp T [p]))), e8, e9]) :
    duB [e0, e1, e2, some (.sh (vP p)), e4, e5, some (.sh (.lst (T.map lS))), some (.sh (lS ts)), e8, e9] P := by
  unfold duB
  (repeat ((with_reducible conv => whnf); first | refine st_var rfl ?_ | refine st_pk rfl ?_ | refine st_pko rfl ?_ | with_reducible refine st_t ?_ | with_reducible refine st_f ?_ | with_reducible refine st_nt ?_ | with_reducible refine st_nf ?_ | refine st_O (vadd_i _ _) ?_ | refine st_O (vsub_i _ _) ?_ | refine st_O (veq_s _ _) ?_ | refine st_O (vne_s _ _) ?_ | refine st_O (veq_i _ _) ?_ | refine st_O (vle_i _ _) ?_ | ((with_reducible refine And.intro ?_ ?_); · first | rfl | (show _ ≤ 16777216; simp only [List.length_cons, List.length_nil]; decide)))); (with_reducible conv => whnf)
  refine st_O (isi_sP p) ?_
  refine st_O rfl ?_
  cases p with
  | tk x =>
    (repeat ((with_reducible conv => whnf); first | refine st_var rfl ?_ | refine st_pk rfl ?_ | refine st_pko rfl ?_ | with_reducible refine st_t ?_ | with_reducible refine st_f ?_ | with_reducible refine st_nt ?_ | with_reducible refine st_nf ?_ | refine st_O (vadd_i _ _) ?_ | refine st_O (vsub_i _ _) ?_ | refine st_O (veq_s _ _) ?_ | refine st_O (vne_s _ _) ?_ | refine st_O (veq_i _ _) ?_ | refine st_O (vle_i _ _) ?_ | ((with_reducible refine And.intro ?_ ?_); · first | rfl | (show _ ≤ 16777216; simp only [List.length_cons, List.length_nil]; decide)))); (with_reducible conv => whnf)
    have e : addV (lS ts) (.lst [vP (.tk x)]) = some (lS (ts ++ exp T [.tk x])) := vadd_lS ts [x] (by show ts.length + 1 ≤ 16777216; have : (exp T [.tk x]).length = 1 := rfl; omega)
    refine st_O e ?_
    exact q
  | ix k =>
    (repeat ((with_reducible conv => whnf); first | refine st_var rfl ?_ | refine st_pk rfl ?_ | refine st_pko rfl ?_ | with_reducible refine st_t ?_ | with_reducible refine st_f ?_ | with_reducible refine st_nt ?_ | with_reducible refine st_nf ?_ | refine st_O (vadd_i _ _) ?_ | refine st_O (vsub_i _ _) ?_ | refine st_O (veq_s _ _) ?_ | refine st_O (vne_s _ _) ?_ | refine st_O (veq_i _ _) ?_ | refine st_O (vle_i _ _) ?_ | ((with_reducible refine And.intro ?_ ?_); · first | rfl | (show _ ≤ 16777216; simp only [List.length_cons, List.length_nil]; decide)))); (with_reducible conv => whnf)
    refine st_O (at_lS (hk k rfl)) ?_
    have e1 : exp T [.ix k] = T.getD k [] := List.append_nil _
    rw [e1] at q hn
    have e : addV (lS ts) (lS (T.getD k [])) = some (lS (ts ++ T.getD k [])) := vadd_lS _ _ (by show _ ≤ 16777216; omega)
    (repeat ((with_reducible conv => whnf); first | refine st_var rfl ?_ | refine st_pk rfl ?_ | refine st_pko rfl ?_ | with_reducible refine st_t ?_ | with_reducible refine st_f ?_ | with_reducible refine st_nt ?_ | with_reducible refine st_nf ?_ | refine st_O (vadd_i _ _) ?_ | refine st_O (vsub_i _ _) ?_ | refine st_O (veq_s _ _) ?_ | refine st_O (vne_s _ _) ?_ | refine st_O (veq_i _ _) ?_ | refine st_O (vle_i _ _) ?_ | ((with_reducible refine And.intro ?_ ?_); · first | rfl | (show _ ≤ 16777216; simp only [List.length_cons, List.length_nil]; decide)))); (with_reducible conv => whnf)
    refine st_O e ?_
    exact q
def riB : VSM := wSeq (wSet false 9 (wIf (wTest (wBin leV (vPk 4) (wIf (wTest (wBin isV (vPk 5) (wC .non))) (wC (.int 2000)) (vVar 5)))) (wCB reprV (wCons (wCB tupleOfV (wCons (vPk 7) (wNil))) (wNil))) (wCB reprV (wCons (wLst (wCons (vVar 4) (wNil))) (wNil)))))
    (wIfS (wTest (wBin neV (wCB reprV (wCons (wCall 3 V__law_heard (wCons (vVar 1) (wCons (vVar 2) (wCons (vVar 5) (wNil))))) (wNil))) (vPk 9))) (wRet (wC (.bl false))) (wNext))
theorem k_riB {rv lv : Vl} {ts : List Str} (tok : Tok rv lv ts) (ht : ∀ y ∈ ts, Tk y) (hn : ts.length ≤ 4800) {t : Option Int} {e0 e3 e6 e8 e9 : Option VS} {P : VP}
    (q : ∀ o, P.nx [e0, some (.sh rv), some (.sh lv), e3, some (.sh (.int (ts.length : Nat))), some (.sh (vT t)), e6, some (.sh (lS ts)), e8, o]) :
    riB [e0, some (.sh rv), some (.sh lv), e3, some (.sh (.int (ts.length : Nat))), some (.sh (vT t)), e6, some (.sh (lS ts)), e8, e9] P := by
  obtain ⟨s1, h1⟩ := sh_due ht hn
  obtain ⟨s2, h2⟩ := sh_one hn
  have h3 : ∃ s, reprV [heard ts (most t)] = some (.str s) ∧ ((ts.length : Int) ≤ most t → s = s1) ∧ (¬ (ts.length : Int) ≤ most t → s = s2) := by
    unfold heard
    by_cases h : (ts.length : Int) ≤ most t
    · rw [if_pos h]; exact ⟨s1, h1, fun _ => rfl, fun z => absurd h z⟩
    · rw [if_neg h]; exact ⟨s2, h2, fun z => absurd z h, fun _ => rfl⟩
  obtain ⟨s, hs, g1, g2⟩ := h3
  have tu : tupleOfV [lS ts] = some (.tup (ts.map .str)) := rfl
  have last : ∀ (o : Option VS), o = some (.sh (.str s)) → (wIfS (wTest (wBin neV (wCB reprV (wCons (wCall 3 V__law_heard (wCons (vVar 1) (wCons (vVar 2) (wCons (vVar 5) (wNil))))) (wNil))) (vPk 9))) (wRet (wC (.bl false))) (wNext)) [e0, some (.sh rv), some (.sh lv), e3, some (.sh (.int (ts.length : Nat))), some (.sh (vT t)), e6, some (.sh (lS ts)), e8, o] P := fun o ho => by
    subst ho
    (repeat ((with_reducible conv => whnf); first | refine st_var rfl ?_ | refine st_pk rfl ?_ | refine st_pko rfl ?_ | with_reducible refine st_t ?_ | with_reducible refine st_f ?_ | with_reducible refine st_nt ?_ | with_reducible refine st_nf ?_ | refine st_O (vadd_i _ _) ?_ | refine st_O (vsub_i _ _) ?_ | refine st_O (veq_s _ _) ?_ | refine st_O (vne_s _ _) ?_ | refine st_O (veq_i _ _) ?_ | refine st_O (vle_i _ _) ?_ | ((with_reducible refine And.intro ?_ ?_); · first | rfl | (show _ ≤ 16777216; simp only [List.length_cons, List.length_nil]; decide)))); (with_reducible conv => whnf)
    refine k_heard tok ?_
    (with_reducible conv => whnf)
    refine st_O hs ?_
    (repeat ((with_reducible conv => whnf); first | refine st_var rfl ?_ | refine st_pk rfl ?_ | refine st_pko rfl ?_ | with_reducible refine st_t ?_ | with_reducible refine st_f ?_ | with_reducible refine st_nt ?_ | with_reducible refine st_nf ?_ | refine st_O (vadd_i _ _) ?_ | refine st_O (vsub_i _ _) ?_ | refine st_O (veq_s _ _) ?_ | refine st_O (vne_s _ _) ?_ | refine st_O (veq_i _ _) ?_ | refine st_O (vle_i _ _) ?_ | ((with_reducible refine And.intro ?_ ?_); · first | rfl | (show _ ≤ 16777216; simp only [List.length_cons, List.length_nil]; decide)))); (with_reducible conv => whnf)
    refine st_n (fun z => absurd rfl z) fun _ => ?_
    exact q _
  have mid : (wIf (wTest (wBin isV (vPk 5) (wC .non))) (wC (.int 2000)) (vVar 5)) = (wIf (wTest (wBin isV (vPk 5) (wC .non))) (wC (.int 2000)) (vVar 5)) := rfl
  unfold riB
  cases t with
  | none =>
    (repeat ((with_reducible conv => whnf); first | refine st_var rfl ?_ | refine st_pk rfl ?_ | refine st_pko rfl ?_ | with_reducible refine st_t ?_ | with_reducible refine st_f ?_ | with_reducible refine st_nt ?_ | with_reducible refine st_nf ?_ | refine st_O (vadd_i _ _) ?_ | refine st_O (vsub_i _ _) ?_ | refine st_O (veq_s _ _) ?_ | refine st_O (vne_s _ _) ?_ | refine st_O (veq_i _ _) ?_ | refine st_O (vle_i _ _) ?_ | ((with_reducible refine And.intro ?_ ?_); · first | rfl | (show _ ≤ 16777216; simp only [List.length_cons, List.length_nil]; decide)))); (with_reducible conv => whnf)
    refine st_O (r := Vl.bl true) rfl ?_
    (repeat ((with_reducible conv => whnf); first | refine st_var rfl ?_ | refine st_pk rfl ?_ | refine st_pko rfl ?_ | with_reducible refine st_t ?_ | with_reducible refine st_f ?_ | with_reducible refine st_nt ?_ | with_reducible refine st_nf ?_ | refine st_O (vadd_i _ _) ?_ | refine st_O (vsub_i _ _) ?_ | refine st_O (veq_s _ _) ?_ | refine st_O (vne_s _ _) ?_ | refine st_O (veq_i _ _) ?_ | refine st_O (vle_i _ _) ?_ | ((with_reducible refine And.intro ?_ ?_); · first | rfl | (show _ ≤ 16777216; simp only [List.length_cons, List.length_nil]; decide)))); (with_reducible conv => whnf)
    refine st_d (fun hle => ?_) fun hle => ?_
    · (repeat ((with_reducible conv => whnf); first | refine st_var rfl ?_ | refine st_pk rfl ?_ | refine st_pko rfl ?_ | with_reducible refine st_t ?_ | with_reducible refine st_f ?_ | with_reducible refine st_nt ?_ | with_reducible refine st_nf ?_ | refine st_O (vadd_i _ _) ?_ | refine st_O (vsub_i _ _) ?_ | refine st_O (veq_s _ _) ?_ | refine st_O (vne_s _ _) ?_ | refine st_O (veq_i _ _) ?_ | refine st_O (vle_i _ _) ?_ | ((with_reducible refine And.intro ?_ ?_); · first | rfl | (show _ ≤ 16777216; simp only [List.length_cons, List.length_nil]; decide)))); (with_reducible conv => whnf)
      refine st_O tu ?_
      (with_reducible conv => whnf)
      refine st_O h1 ?_
      exact last _ (by rw [g1 hle]; rfl)
    · (repeat ((with_reducible conv => whnf); first | refine st_var rfl ?_ | refine st_pk rfl ?_ | refine st_pko rfl ?_ | with_reducible refine st_t ?_ | with_reducible refine st_f ?_ | with_reducible refine st_nt ?_ | with_reducible refine st_nf ?_ | refine st_O (vadd_i _ _) ?_ | refine st_O (vsub_i _ _) ?_ | refine st_O (veq_s _ _) ?_ | refine st_O (vne_s _ _) ?_ | refine st_O (veq_i _ _) ?_ | refine st_O (vle_i _ _) ?_ | ((with_reducible refine And.intro ?_ ?_); · first | rfl | (show _ ≤ 16777216; simp only [List.length_cons, List.length_nil]; decide)))); (with_reducible conv => whnf)
      refine st_O h2 ?_
      exact last _ (by rw [g2 hle]; rfl)
  | some m =>
    (repeat ((with_reducible conv => whnf); first | refine st_var rfl ?_ | refine st_pk rfl ?_ | refine st_pko rfl ?_ | with_reducible refine st_t ?_ | with_reducible refine st_f ?_ | with_reducible refine st_nt ?_ | with_reducible refine st_nf ?_ | refine st_O (vadd_i _ _) ?_ | refine st_O (vsub_i _ _) ?_ | refine st_O (veq_s _ _) ?_ | refine st_O (vne_s _ _) ?_ | refine st_O (veq_i _ _) ?_ | refine st_O (vle_i _ _) ?_ | ((with_reducible refine And.intro ?_ ?_); · first | rfl | (show _ ≤ 16777216; simp only [List.length_cons, List.length_nil]; decide)))); (with_reducible conv => whnf)
    refine st_O (r := Vl.bl false) rfl ?_
    (repeat ((with_reducible conv => whnf); first | refine st_var rfl ?_ | refine st_pk rfl ?_ | refine st_pko rfl ?_ | with_reducible refine st_t ?_ | with_reducible refine st_f ?_ | with_reducible refine st_nt ?_ | with_reducible refine st_nf ?_ | refine st_O (vadd_i _ _) ?_ | refine st_O (vsub_i _ _) ?_ | refine st_O (veq_s _ _) ?_ | refine st_O (vne_s _ _) ?_ | refine st_O (veq_i _ _) ?_ | refine st_O (vle_i _ _) ?_ | ((with_reducible refine And.intro ?_ ?_); · first | rfl | (show _ ≤ 16777216; simp only [List.length_cons, List.length_nil]; decide)))); (with_reducible conv => whnf)
    refine st_d (fun hle => ?_) fun hle => ?_
    · (repeat ((with_reducible conv => whnf); first | refine st_var rfl ?_ | refine st_pk rfl ?_ | refine st_pko rfl ?_ | with_reducible refine st_t ?_ | with_reducible refine st_f ?_ | with_reducible refine st_nt ?_ | with_reducible refine st_nf ?_ | refine st_O (vadd_i _ _) ?_ | refine st_O (vsub_i _ _) ?_ | refine st_O (veq_s _ _) ?_ | refine st_O (vne_s _ _) ?_ | refine st_O (veq_i _ _) ?_ | refine st_O (vle_i _ _) ?_ | ((with_reducible refine And.intro ?_ ?_); · first | rfl | (show _ ≤ 16777216; simp only [List.length_cons, List.length_nil]; decide)))); (with_reducible conv => whnf)
      refine st_O tu ?_
      (with_reducible conv => whnf)
      refine st_O h1 ?_
      exact last _ (by rw [g1 hle]; rfl)
    · (repeat ((with_reducible conv => whnf); first | refine st_var rfl ?_ | refine st_pk rfl ?_ | refine st_pko rfl ?_ | with_reducible refine st_t ?_ | with_reducible refine st_f ?_ | with_reducible refine st_nt ?_ | with_reducible refine st_nf ?_ | refine st_O (vadd_i _ _) ?_ | refine st_O (vsub_i _ _) ?_ | refine st_O (veq_s _ _) ?_ | refine st_O (vne_s _ _) ?_ | refine st_O (veq_i _ _) ?_ | refine st_O (vle_i _ _) ?_ | ((with_reducible refine And.intro ?_ ?_); · first | rfl | (show _ ≤ 16777216; simp only [List.length_cons, List.length_nil]; decide)))); (with_reducible conv => whnf)
      refine st_O h2 ?_
      exact last _ (by rw [g2 hle]; rfl)
def riL : VAM := wCons (vVar 4) (wCons (wBin addV (vPk 4) (wCall 2 vDraw (wCons (vVar 0) (wCons (wC (.int 9)) (wNil))))) (wCons (wCB maxV (wCons (wC (.int 0)) (wCons (wBin subV (vPk 4) (wC (.int 1))) (wNil)))) (wCons (wC (.int 0)) (wCons (wCall 2 vDraw (wCons (vVar 0) (wCons (wC (.int 20)) (wNil)))) (wCons (wC .non) (wNil))))))
def riE : VSM := wSeq (wIfS (wTest (wBin neV (wCB reprV (wCons (wCallK 3 V_tokens_of [(true, 2), (true, 1), (true, 0)] wNil (wCons (vVar 4) (wCons (vVar 2) (wCons (vVar 1) (wNil))))) (wNil))) (wCB reprV (wCons (wCB tupleOfV (wCons (vPk 7) (wNil))) (wNil))))) (wRet (wC (.bl false))) (wNext))
    (wRet (wBin DL.eqV (wCB reprV (wCons (wLst (wCons (vVar 1) (wCons (vVar 2) (wNil)))) (wNil))) (vPk 8)))
theorem k_riE {rows : List Sp} {lot : List Pt} (h : Dr rows) (hn : rows.length ≤ 12) (hl : Lo8 rows.length lot) {s : Str} (hs : reprV [.lst [vR rows, vL lot]] = some (.str s)) {ts : List Str} (hts : ts = exp (tab rows) lot) {e0 e3 e5 e6 e9 : Option VS} {P : VP}
    (q : P.rt (.bl true)) : riE [e0, some (.sh (vR rows)), some (.sh (vL lot)), e3, some (.sh (.int (ts.length : Nat))), e5, e6, some (.sh (lS ts)), some (.sh (.str s)), e9] P := by
  have dl := due_len h hl.n
  have ht := due_tk h hl
  rw [← hts] at dl ht
  obtain ⟨s1, h1⟩ := sh_due ht dl
  have tu : tupleOfV [lS ts] = some (.tup (ts.map .str)) := rfl
  unfold riE
  (repeat ((with_reducible conv => whnf); first | refine st_var rfl ?_ | refine st_pk rfl ?_ | refine st_pko rfl ?_ | with_reducible refine st_t ?_ | with_reducible refine st_f ?_ | with_reducible refine st_nt ?_ | with_reducible refine st_nf ?_ | refine st_O (vadd_i _ _) ?_ | refine st_O (vsub_i _ _) ?_ | refine st_O (veq_s _ _) ?_ | refine st_O (vne_s _ _) ?_ | refine st_O (veq_i _ _) ?_ | refine st_O (vle_i _ _) ?_ | ((with_reducible refine And.intro ?_ ?_); · first | rfl | (show _ ≤ 16777216; simp only [List.length_cons, List.length_nil]; decide)))); (with_reducible conv => whnf)
  refine k_tokens h.rw_ hl.lt (by rw [← hts]; omega) (fun _ => ?_) fun z => absurd z (by rw [← hts]; omega)
  rw [← hts]
  (with_reducible conv => whnf)
  refine st_O h1 ?_
  (repeat ((with_reducible conv => whnf); first | refine st_var rfl ?_ | refine st_pk rfl ?_ | refine st_pko rfl ?_ | with_reducible refine st_t ?_ | with_reducible refine st_f ?_ | with_reducible refine st_nt ?_ | with_reducible refine st_nf ?_ | refine st_O (vadd_i _ _) ?_ | refine st_O (vsub_i _ _) ?_ | refine st_O (veq_s _ _) ?_ | refine st_O (vne_s _ _) ?_ | refine st_O (veq_i _ _) ?_ | refine st_O (vle_i _ _) ?_ | ((with_reducible refine And.intro ?_ ?_); · first | rfl | (show _ ≤ 16777216; simp only [List.length_cons, List.length_nil]; decide)))); (with_reducible conv => whnf)
  refine st_O tu ?_
  (with_reducible conv => whnf)
  refine st_O h1 ?_
  (repeat ((with_reducible conv => whnf); first | refine st_var rfl ?_ | refine st_pk rfl ?_ | refine st_pko rfl ?_ | with_reducible refine st_t ?_ | with_reducible refine st_f ?_ | with_reducible refine st_nt ?_ | with_reducible refine st_nf ?_ | refine st_O (vadd_i _ _) ?_ | refine st_O (vsub_i _ _) ?_ | refine st_O (veq_s _ _) ?_ | refine st_O (vne_s _ _) ?_ | refine st_O (veq_i _ _) ?_ | refine st_O (vle_i _ _) ?_ | ((with_reducible refine And.intro ?_ ?_); · first | rfl | (show _ ≤ 16777216; simp only [List.length_cons, List.length_nil]; decide)))); (with_reducible conv => whnf)
  refine st_n (fun z => absurd rfl z) fun _ => ?_
  (repeat ((with_reducible conv => whnf); first | refine st_var rfl ?_ | refine st_pk rfl ?_ | refine st_pko rfl ?_ | with_reducible refine st_t ?_ | with_reducible refine st_f ?_ | with_reducible refine st_nt ?_ | with_reducible refine st_nf ?_ | refine st_O (vadd_i _ _) ?_ | refine st_O (vsub_i _ _) ?_ | refine st_O (veq_s _ _) ?_ | refine st_O (vne_s _ _) ?_ | refine st_O (veq_i _ _) ?_ | refine st_O (vle_i _ _) ?_ | ((with_reducible refine And.intro ?_ ?_); · first | rfl | (show _ ≤ 16777216; simp only [List.length_cons, List.length_nil]; decide)))); (with_reducible conv => whnf)
  refine st_O hs ?_
  (repeat ((with_reducible conv => whnf); first | refine st_var rfl ?_ | refine st_pk rfl ?_ | refine st_pko rfl ?_ | with_reducible refine st_t ?_ | with_reducible refine st_f ?_ | with_reducible refine st_nt ?_ | with_reducible refine st_nf ?_ | refine st_O (vadd_i _ _) ?_ | refine st_O (vsub_i _ _) ?_ | refine st_O (veq_s _ _) ?_ | refine st_O (vne_s _ _) ?_ | refine st_O (veq_i _ _) ?_ | refine st_O (vle_i _ _) ?_ | ((with_reducible refine And.intro ?_ ?_); · first | rfl | (show _ ≤ 16777216; simp only [List.length_cons, List.length_nil]; decide)))); (with_reducible conv => whnf)
  rw [decide_eq_true rfl]
  exact q
theorem k_right {rows : List Sp} {lot : List Pt} (h : Dr rows) (hn : rows.length ≤ 12) (hl : Lo8 rows.length lot) (q : Q (.bl true)) : V__law_right [.hand, vR rows, vL lot] Q E := by
  have s10 : startV 10 [.hand, vR rows, vL lot] = [some (.sh .hand), some (.sh (vR rows)), some (.sh (vL lot)), none, none, none, none, none, none, none] := rfl
  have bdy : v__law_right = wSeq (wPar3 6 7 8 (wCons (wCall 1 V__law_written (wCons (vVar 1) (wNil))) (wCons (wLst (wNil)) (wCons (wCB reprV (wCons (wLst (wCons (vVar 1) (wCons (vVar 2) (wNil)))) (wNil))) (wNil)))))
    (wSeq (wFor (wiAny (vVar 2)) (.nm 3) duB)
    (wSeq (wSet false 4 (wCB lenV (wCons (vPk 7) (wNil))))
    (wSeq (wIfS (wTest (wBin neV (wCB reprV (wCons (wLst (wCons (wCall 2 V_length_of (wCons (vVar 1) (wCons (vVar 2) (wNil)))) (wCons (wCallK 2 V_length_of [(true, 1), (true, 0)] wNil (wCons (vVar 2) (wCons (vVar 1) (wNil)))) (wNil)))) (wNil))) (wCB reprV (wCons (wLst (wCons (vVar 4) (wCons (vVar 4) (wNil)))) (wNil))))) (wRet (wC (.bl false))) (wNext))
    (wSeq (wFor (wiAny (wLst riL)) (.nm 5) riB) riE)))) := rfl
  obtain ⟨s, hs⟩ := sh_both h hn hl
  have dl := due_len h hl.n
  have ht := due_tk h hl
  unfold V__law_right vRun
  rw [s10, bdy]
  (repeat ((with_reducible conv => whnf); first | refine st_var rfl ?_ | refine st_pk rfl ?_ | refine st_pko rfl ?_ | with_reducible refine st_t ?_ | with_reducible refine st_f ?_ | with_reducible refine st_nt ?_ | with_reducible refine st_nf ?_ | refine st_O (vadd_i _ _) ?_ | refine st_O (vsub_i _ _) ?_ | refine st_O (veq_s _ _) ?_ | refine st_O (vne_s _ _) ?_ | refine st_O (veq_i _ _) ?_ | refine st_O (vle_i _ _) ?_ | ((with_reducible refine And.intro ?_ ?_); · first | rfl | (show _ ≤ 16777216; simp only [List.length_cons, List.length_nil]; decide)))); (with_reducible conv => whnf)
  refine k_written h.rw_ h.bd ?_
  (repeat ((with_reducible conv => whnf); first | refine st_var rfl ?_ | refine st_pk rfl ?_ | refine st_pko rfl ?_ | with_reducible refine st_t ?_ | with_reducible refine st_f ?_ | with_reducible refine st_nt ?_ | with_reducible refine st_nf ?_ | refine st_O (vadd_i _ _) ?_ | refine st_O (vsub_i _ _) ?_ | refine st_O (veq_s _ _) ?_ | refine st_O (vne_s _ _) ?_ | refine st_O (veq_i _ _) ?_ | refine st_O (vle_i _ _) ?_ | ((with_reducible refine And.intro ?_ ?_); · first | rfl | (show _ ≤ 16777216; simp only [List.length_cons, List.length_nil]; decide)))); (with_reducible conv => whnf)
  refine st_O hs ?_
  (repeat ((with_reducible conv => whnf); first | refine st_var rfl ?_ | refine st_pk rfl ?_ | refine st_pko rfl ?_ | with_reducible refine st_t ?_ | with_reducible refine st_f ?_ | with_reducible refine st_nt ?_ | with_reducible refine st_nf ?_ | refine st_O (vadd_i _ _) ?_ | refine st_O (vsub_i _ _) ?_ | refine st_O (veq_s _ _) ?_ | refine st_O (vne_s _ _) ?_ | refine st_O (veq_i _ _) ?_ | refine st_O (vle_i _ _) ?_ | ((with_reducible refine And.intro ?_ ?_); · first | rfl | (show _ ≤ 16777216; simp only [List.length_cons, List.length_nil]; decide)))); (with_reducible conv => whnf)
  refine st_O (r := lot.map vP) rfl ?_
  refine ⟨by rw [List.length_map]; have := hl.n; omega, ?_⟩
  refine loop_at (J := fun i e => ∃ o, e = [some (.sh .hand), some (.sh (vR rows)), some (.sh (vL lot)), o, none, none, some (.sh (.lst ((tab rows).map lS))), some (.sh (lS (exp (tab rows) (lot.take i)))), some (.sh (.str s)), none]) _ 0 ⟨none, rfl⟩ (fun j v env K hj hJ hK => ?_) fun e he => ?_
  · rw [List.getElem?_map] at hj
    obtain ⟨p, hp, rfl⟩ := Option.map_eq_some_iff.mp hj
    rw [Nat.zero_add] at hJ
    obtain ⟨o, rfl⟩ := hJ
    refine st_O rfl ?_
    have d2 : (exp (tab rows) (lot.take j ++ [p])).length ≤ 4800 := by
      rw [← take_snoc hp]
      exact due_len h (by rw [List.length_take]; have := hl.n; omega)
    rw [exp_app, List.length_append] at d2
    refine k_duB (fun k e => ?_) (by omega) (hK _ ⟨some (.sh (vP p)), ?_⟩)
    · rw [tab_len]; subst e; exact hl.lt.lo k (List.mem_of_getElem? hp)
    · rw [Nat.zero_add, take_snoc hp, exp_app]
  · obtain ⟨o, rfl⟩ := he
    have e2 : lot.take (0 + (lot.map vP).length) = lot := by rw [Nat.zero_add, List.length_map, List.take_length]
    rw [e2]
    obtain ⟨ts, hts⟩ : ∃ ts, ts = exp (tab rows) lot := ⟨_, rfl⟩
    rw [← hts] at dl ht ⊢
    obtain ⟨s2, h2⟩ := sh_two dl
    have ll : lenV [lS ts] = some (.int (ts.length : Nat)) := by show some (Vl.int _) = _; rw [List.length_map]
    (repeat ((with_reducible conv => whnf); first | refine st_var rfl ?_ | refine st_pk rfl ?_ | refine st_pko rfl ?_ | with_reducible refine st_t ?_ | with_reducible refine st_f ?_ | with_reducible refine st_nt ?_ | with_reducible refine st_nf ?_ | refine st_O (vadd_i _ _) ?_ | refine st_O (vsub_i _ _) ?_ | refine st_O (veq_s _ _) ?_ | refine st_O (vne_s _ _) ?_ | refine st_O (veq_i _ _) ?_ | refine st_O (vle_i _ _) ?_ | ((with_reducible refine And.intro ?_ ?_); · first | rfl | (show _ ≤ 16777216; simp only [List.length_cons, List.length_nil]; decide)))); (with_reducible conv => whnf)
    refine st_O ll ?_
    (repeat ((with_reducible conv => whnf); first | refine st_var rfl ?_ | refine st_pk rfl ?_ | refine st_pko rfl ?_ | with_reducible refine st_t ?_ | with_reducible refine st_f ?_ | with_reducible refine st_nt ?_ | with_reducible refine st_nf ?_ | refine st_O (vadd_i _ _) ?_ | refine st_O (vsub_i _ _) ?_ | refine st_O (veq_s _ _) ?_ | refine st_O (vne_s _ _) ?_ | refine st_O (veq_i _ _) ?_ | refine st_O (vle_i _ _) ?_ | ((with_reducible refine And.intro ?_ ?_); · first | rfl | (show _ ≤ 16777216; simp only [List.length_cons, List.length_nil]; decide)))); (with_reducible conv => whnf)
    refine k_length_of h.rw_ hl.lt ?_
    rw [← hts]
    (repeat ((with_reducible conv => whnf); first | refine st_var rfl ?_ | refine st_pk rfl ?_ | refine st_pko rfl ?_ | with_reducible refine st_t ?_ | with_reducible refine st_f ?_ | with_reducible refine st_nt ?_ | with_reducible refine st_nf ?_ | refine st_O (vadd_i _ _) ?_ | refine st_O (vsub_i _ _) ?_ | refine st_O (veq_s _ _) ?_ | refine st_O (vne_s _ _) ?_ | refine st_O (veq_i _ _) ?_ | refine st_O (vle_i _ _) ?_ | ((with_reducible refine And.intro ?_ ?_); · first | rfl | (show _ ≤ 16777216; simp only [List.length_cons, List.length_nil]; decide)))); (with_reducible conv => whnf)
    refine k_length_of h.rw_ hl.lt ?_
    rw [← hts]
    (repeat ((with_reducible conv => whnf); first | refine st_var rfl ?_ | refine st_pk rfl ?_ | refine st_pko rfl ?_ | with_reducible refine st_t ?_ | with_reducible refine st_f ?_ | with_reducible refine st_nt ?_ | with_reducible refine st_nf ?_ | refine st_O (vadd_i _ _) ?_ | refine st_O (vsub_i _ _) ?_ | refine st_O (veq_s _ _) ?_ | refine st_O (vne_s _ _) ?_ | refine st_O (veq_i _ _) ?_ | refine st_O (vle_i _ _) ?_ | ((with_reducible refine And.intro ?_ ?_); · first | rfl | (show _ ≤ 16777216; simp only [List.length_cons, List.length_nil]; decide)))); (with_reducible conv => whnf)
    refine st_O h2 ?_
    (repeat ((with_reducible conv => whnf); first | refine st_var rfl ?_ | refine st_pk rfl ?_ | refine st_pko rfl ?_ | with_reducible refine st_t ?_ | with_reducible refine st_f ?_ | with_reducible refine st_nt ?_ | with_reducible refine st_nf ?_ | refine st_O (vadd_i _ _) ?_ | refine st_O (vsub_i _ _) ?_ | refine st_O (veq_s _ _) ?_ | refine st_O (vne_s _ _) ?_ | refine st_O (veq_i _ _) ?_ | refine st_O (vle_i _ _) ?_ | ((with_reducible refine And.intro ?_ ?_); · first | rfl | (show _ ≤ 16777216; simp only [List.length_cons, List.length_nil]; decide)))); (with_reducible conv => whnf)
    refine st_O h2 ?_
    (repeat ((with_reducible conv => whnf); first | refine st_var rfl ?_ | refine st_pk rfl ?_ | refine st_pko rfl ?_ | with_reducible refine st_t ?_ | with_reducible refine st_f ?_ | with_reducible refine st_nt ?_ | with_reducible refine st_nf ?_ | refine st_O (vadd_i _ _) ?_ | refine st_O (vsub_i _ _) ?_ | refine st_O (veq_s _ _) ?_ | refine st_O (vne_s _ _) ?_ | refine st_O (veq_i _ _) ?_ | refine st_O (vle_i _ _) ?_ | ((with_reducible refine And.intro ?_ ?_); · first | rfl | (show _ ≤ 16777216; simp only [List.length_cons, List.length_nil]; decide)))); (with_reducible conv => whnf)
    refine st_n (fun z => absurd rfl z) fun _ => ?_
    (repeat ((with_reducible conv => whnf); first | refine st_var rfl ?_ | refine st_pk rfl ?_ | refine st_pko rfl ?_ | with_reducible refine st_t ?_ | with_reducible refine st_f ?_ | with_reducible refine st_nt ?_ | with_reducible refine st_nf ?_ | refine st_O (vadd_i _ _) ?_ | refine st_O (vsub_i _ _) ?_ | refine st_O (veq_s _ _) ?_ | refine st_O (vne_s _ _) ?_ | refine st_O (veq_i _ _) ?_ | refine st_O (vle_i _ _) ?_ | ((with_reducible refine And.intro ?_ ?_); · first | rfl | (show _ ≤ 16777216; simp only [List.length_cons, List.length_nil]; decide)))); (with_reducible conv => whnf)
    unfold riL
    (repeat ((with_reducible conv => whnf); first | refine st_var rfl ?_ | refine st_pk rfl ?_ | refine st_pko rfl ?_ | with_reducible refine st_t ?_ | with_reducible refine st_f ?_ | with_reducible refine st_nt ?_ | with_reducible refine st_nf ?_ | refine st_O (vadd_i _ _) ?_ | refine st_O (vsub_i _ _) ?_ | refine st_O (veq_s _ _) ?_ | refine st_O (vne_s _ _) ?_ | refine st_O (veq_i _ _) ?_ | refine st_O (vle_i _ _) ?_ | ((with_reducible refine And.intro ?_ ?_); · first | rfl | (show _ ≤ 16777216; simp only [List.length_cons, List.length_nil]; decide)))); (with_reducible conv => whnf)
    refine k_draw (by decide) (by decide) fun a a0 a1 => ?_
    (repeat ((with_reducible conv => whnf); first | refine st_var rfl ?_ | refine st_pk rfl ?_ | refine st_pko rfl ?_ | with_reducible refine st_t ?_ | with_reducible refine st_f ?_ | with_reducible refine st_nt ?_ | with_reducible refine st_nf ?_ | refine st_O (vadd_i _ _) ?_ | refine st_O (vsub_i _ _) ?_ | refine st_O (veq_s _ _) ?_ | refine st_O (vne_s _ _) ?_ | refine st_O (veq_i _ _) ?_ | refine st_O (vle_i _ _) ?_ | ((with_reducible refine And.intro ?_ ?_); · first | rfl | (show _ ≤ 16777216; simp only [List.length_cons, List.length_nil]; decide)))); (with_reducible conv => whnf)
    refine st_O (r := Vl.int (if (ts.length : Int) - 1 > 0 then (ts.length : Int) - 1 else 0)) rfl ?_
    (repeat ((with_reducible conv => whnf); first | refine st_var rfl ?_ | refine st_pk rfl ?_ | refine st_pko rfl ?_ | with_reducible refine st_t ?_ | with_reducible refine st_f ?_ | with_reducible refine st_nt ?_ | with_reducible refine st_nf ?_ | refine st_O (vadd_i _ _) ?_ | refine st_O (vsub_i _ _) ?_ | refine st_O (veq_s _ _) ?_ | refine st_O (vne_s _ _) ?_ | refine st_O (veq_i _ _) ?_ | refine st_O (vle_i _ _) ?_ | ((with_reducible refine And.intro ?_ ?_); · first | rfl | (show _ ≤ 16777216; simp only [List.length_cons, List.length_nil]; decide)))); (with_reducible conv => whnf)
    refine k_draw (by decide) (by decide) fun b b0 b1 => ?_
    (repeat ((with_reducible conv => whnf); first | refine st_var rfl ?_ | refine st_pk rfl ?_ | refine st_pko rfl ?_ | with_reducible refine st_t ?_ | with_reducible refine st_f ?_ | with_reducible refine st_nt ?_ | with_reducible refine st_nf ?_ | refine st_O (vadd_i _ _) ?_ | refine st_O (vsub_i _ _) ?_ | refine st_O (veq_s _ _) ?_ | refine st_O (vne_s _ _) ?_ | refine st_O (veq_i _ _) ?_ | refine st_O (vle_i _ _) ?_ | ((with_reducible refine And.intro ?_ ?_); · first | rfl | (show _ ≤ 16777216; simp only [List.length_cons, List.length_nil]; decide)))); (with_reducible conv => whnf)
    refine st_O (r := _) rfl ?_
    (repeat ((with_reducible conv => whnf); first | refine st_var rfl ?_ | refine st_pk rfl ?_ | refine st_pko rfl ?_ | with_reducible refine st_t ?_ | with_reducible refine st_f ?_ | with_reducible refine st_nt ?_ | with_reducible refine st_nf ?_ | refine st_O (vadd_i _ _) ?_ | refine st_O (vsub_i _ _) ?_ | refine st_O (veq_s _ _) ?_ | refine st_O (vne_s _ _) ?_ | refine st_O (veq_i _ _) ?_ | refine st_O (vle_i _ _) ?_ | ((with_reducible refine And.intro ?_ ?_); · first | rfl | (show _ ≤ 16777216; simp only [List.length_cons, List.length_nil]; decide)))); (with_reducible conv => whnf)
    refine loop_inv (J := fun e => ∃ o5 o9, e = [some (.sh .hand), some (.sh (vR rows)), some (.sh (vL lot)), o, some (.sh (.int (ts.length : Nat))), o5, some (.sh (.lst ((tab rows).map lS))), some (.sh (lS ts)), some (.sh (.str s)), o9]) ⟨none, none, rfl⟩ (fun v hv env K hJ hK => ?_) fun e he => ?_
    · obtain ⟨o5, o9, rfl⟩ := hJ
      refine st_O rfl ?_
      obtain ⟨t, rfl⟩ : ∃ t, v = vT t := by
        simp only [List.mem_cons, List.not_mem_nil, or_false] at hv
        rcases hv with rfl | rfl | rfl | rfl | rfl | rfl
        · exact ⟨some _, rfl⟩
        · exact ⟨some _, rfl⟩
        · exact ⟨some _, rfl⟩
        · exact ⟨some _, rfl⟩
        · exact ⟨some _, rfl⟩
        · exact ⟨none, rfl⟩
      exact k_riB (fun m Q E q1 q2 => k_tokens h.rw_ hl.lt (by rw [← hts]; omega) (by rw [← hts]; exact q1) (by rw [← hts]; exact q2)) ht dl fun o' => hK _ ⟨_, o', rfl⟩
    · obtain ⟨o5, o9, rfl⟩ := he
      exact k_riE h hn hl hs hts q
end
end K43

set_option maxHeartbeats 1000000
/-! the law -/
namespace K43
open PySem L2 DL
def some6 : List Vl := [.str "give", .str ";", .str "=", .str "if", .str "0", .str ")"]
theorem some6_tk {v : Vl} (h : v ∈ some6) : ∃ x, v = .str x ∧ Tk x := by
  simp only [some6, List.mem_cons, List.not_mem_nil, or_false] at h
  rcases h with rfl | rfl | rfl | rfl | rfl | rfl <;> exact ⟨_, rfl, by decide, by decide +kernel⟩
def ptB : VSM := wApp 5 (wCall 2 V__law_pick (wCons (vVar 1) (wCons (wLst (wCons (wCall 2 vDraw (wCons (vVar 1) (wCons (wCB lenV (wCons (vPk 3) (wNil))) (wNil)))) (wCons (wCall 2 V__law_pick (wCons (vVar 1) (wCons (vVar 6) (wNil)))) (wNil)))) (wNil))))
structure Lo8' (n m : Nat) (lot : List Pt) : Prop where
  lo : Lo n lot
  n : lot.length ≤ m
  tk : ∀ x, Pt.tk x ∈ lot → Tk x
theorem Lo8'.snoc {n m : Nat} {lot : List Pt} (h : Lo8' n m lot) {p : Pt} (hk : ∀ k, p = .ix k → k < n) (ht : ∀ x, p = .tk x → Tk x) : Lo8' n (m + 1) (lot ++ [p]) := by
  refine ⟨fun k hx => ?_, by rw [List.length_append, List.length_cons, List.length_nil]; have := h.n; omega, fun x hx => ?_⟩
  · rcases List.mem_append.mp hx with hx | hx
    · exact h.lo k hx
    · exact hk k (List.mem_singleton.mp hx).symm
  · rcases List.mem_append.mp hx with hx | hx
    · exact h.tk x hx
    · exact ht x (List.mem_singleton.mp hx).symm
theorem Lo8'.to {n m : Nat} {lot : List Pt} (h : Lo8' n m lot) (hm : m ≤ 8) : Lo8 n lot := ⟨⟨h.lo, by have := h.n; omega⟩, by have := h.n; omega, h.tk⟩
theorem k_ptB {rows : List Sp} {lot : List Pt} {m : Nat} {e0 e2 e4 : Option VS} {P : VP} (h0 : 0 < rows.length) (hn : rows.length ≤ 12) (h : Lo8' rows.length m lot) (hm : m < 1000)
    (q : ∀ lot', Lo8' rows.length (m + 1) lot' → P.nx [e0, some (.sh .hand), e2, some (.sh (vR rows)), e4, some (.ow (.lst (lot'.map vP))), some (.sh (.lst some6))]) :
    ptB [e0, some (.sh .hand), e2, some (.sh (vR rows)), e4, some (.ow (.lst (lot.map vP))), some (.sh (.lst some6))] P := by
  have ll : lenV [vR rows] = some (.int (rows.length : Nat)) := by show some (Vl.int _) = _; rw [List.length_map]
  unfold ptB
  (with_reducible conv => whnf)
  refine st_O (r := lot.map vP) rfl ?_
  (repeat ((with_reducible conv => whnf); first | refine st_var rfl ?_ | refine st_pk rfl ?_ | refine st_pko rfl ?_ | with_reducible refine st_t ?_ | with_reducible refine st_f ?_ | with_reducible refine st_nt ?_ | with_reducible refine st_nf ?_ | refine st_O (vadd_i _ _) ?_ | refine st_O (vsub_i _ _) ?_ | refine st_O (veq_s _ _) ?_ | refine st_O (vne_s _ _) ?_ | refine st_O (veq_i _ _) ?_ | refine st_O (vle_i _ _) ?_ | ((with_reducible refine And.intro ?_ ?_); · first | rfl | (show _ ≤ 16777216; simp only [List.length_cons, List.length_nil]; decide)))); (with_reducible conv => whnf)
  refine st_O ll ?_
  (repeat ((with_reducible conv => whnf); first | refine st_var rfl ?_ | refine st_pk rfl ?_ | refine st_pko rfl ?_ | with_reducible refine st_t ?_ | with_reducible refine st_f ?_ | with_reducible refine st_nt ?_ | with_reducible refine st_nf ?_ | refine st_O (vadd_i _ _) ?_ | refine st_O (vsub_i _ _) ?_ | refine st_O (veq_s _ _) ?_ | refine st_O (vne_s _ _) ?_ | refine st_O (veq_i _ _) ?_ | refine st_O (vle_i _ _) ?_ | ((with_reducible refine And.intro ?_ ?_); · first | rfl | (show _ ≤ 16777216; simp only [List.length_cons, List.length_nil]; decide)))); (with_reducible conv => whnf)
  refine k_draw (by omega) (by omega) fun i i0 i1 => ?_
  (repeat ((with_reducible conv => whnf); first | refine st_var rfl ?_ | refine st_pk rfl ?_ | refine st_pko rfl ?_ | with_reducible refine st_t ?_ | with_reducible refine st_f ?_ | with_reducible refine st_nt ?_ | with_reducible refine st_nf ?_ | refine st_O (vadd_i _ _) ?_ | refine st_O (vsub_i _ _) ?_ | refine st_O (veq_s _ _) ?_ | refine st_O (vne_s _ _) ?_ | refine st_O (veq_i _ _) ?_ | refine st_O (vle_i _ _) ?_ | ((with_reducible refine And.intro ?_ ?_); · first | rfl | (show _ ≤ 16777216; simp only [List.length_cons, List.length_nil]; decide)))); (with_reducible conv => whnf)
  refine k_pick (by decide) (by decide) fun v hv => ?_
  obtain ⟨x, rfl, hx⟩ := some6_tk hv
  (repeat ((with_reducible conv => whnf); first | refine st_var rfl ?_ | refine st_pk rfl ?_ | refine st_pko rfl ?_ | with_reducible refine st_t ?_ | with_reducible refine st_f ?_ | with_reducible refine st_nt ?_ | with_reducible refine st_nf ?_ | refine st_O (vadd_i _ _) ?_ | refine st_O (vsub_i _ _) ?_ | refine st_O (veq_s _ _) ?_ | refine st_O (vne_s _ _) ?_ | refine st_O (veq_i _ _) ?_ | refine st_O (vle_i _ _) ?_ | ((with_reducible refine And.intro ?_ ?_); · first | rfl | (show _ ≤ 16777216; simp only [List.length_cons, List.length_nil]; decide)))); (with_reducible conv => whnf)
  refine k_pick (by simp only [List.length_cons, List.length_nil]; decide) (by simp only [List.length_cons, List.length_nil]; decide) fun v hv => ?_
  refine ⟨by rw [List.length_map]; have := h.n; show _ < 16777216; omega, ?_⟩
  obtain ⟨p, rfl, hk, ht⟩ : ∃ p, v = vP p ∧ (∀ k, p = .ix k → k < rows.length) ∧ ∀ x, p = .tk x → Tk x := by
    simp only [List.mem_cons, List.not_mem_nil, or_false] at hv
    rcases hv with rfl | rfl
    · exact ⟨.ix i.toNat, by show Vl.int i = .int ((i.toNat : Nat) : Int); rw [show ((i.toNat : Nat) : Int) = i by omega], (fun k e => by cases e; omega), (fun x e => nomatch e)⟩
    · exact ⟨.tk x, rfl, (fun k e => nomatch e), (fun y e => by cases e; exact hx)⟩
  have := q (lot ++ [p]) (h.snoc hk ht)
  rw [List.map_append] at this
  exact this
def tuB : VSM := wSeq (wSet false 3 (wCall 1 V__law_rows (wCons (vVar 1) (wNil))))
    (wSeq (wPar true false 5 6 (wLst (wNil)) (wLst (wCons (wC (.str "give")) (wCons (wC (.str ";")) (wCons (wC (.str "=")) (wCons (wC (.str "if")) (wCons (wC (.str "0")) (wCons (wC (.str ")")) (wNil)))))))))
    (wSeq (wFor (wiRg1 (wCons (wCall 2 V__law_pick (wCons (vVar 1) (wCons (wLst (wCons (wC (.int 0)) (wCons (wC (.int 1)) (wCons (wC (.int 1)) (wCons (wC (.int 3)) (wCons (wC (.int 8)) (wNil))))))) (wNil)))) (wNil))) (.nm 4) ptB)
    (wIfS (wtOr (wtNot (wTru (wCall 3 V__law_right (wCons (vVar 1) (wCons (vVar 3) (wCons (wCB tupleOfV (wCons (vPk 5) (wNil))) (wNil))))))) (wtNot (wTru (wCall 3 V__law_right (wCons (vVar 1) (wCons (vVar 3) (wCons (wTup (wCons (wBin subV (wCB lenV (wCons (vPk 3) (wNil))) (wC (.int 1))) (wNil))) (wNil)))))))) (wRet (wC (.bl false))) (wNext))))
theorem k_tuB {e0 e2 a b c d : Option VS} {P : VP} (q : ∀ a b c d, P.nx [e0, some (.sh .hand), e2, a, b, c, d]) : tuB [e0, some (.sh .hand), e2, a, b, c, d] P := by
  unfold tuB
  (repeat ((with_reducible conv => whnf); first | refine st_var rfl ?_ | refine st_pk rfl ?_ | refine st_pko rfl ?_ | with_reducible refine st_t ?_ | with_reducible refine st_f ?_ | with_reducible refine st_nt ?_ | with_reducible refine st_nf ?_ | refine st_O (vadd_i _ _) ?_ | refine st_O (vsub_i _ _) ?_ | refine st_O (veq_s _ _) ?_ | refine st_O (vne_s _ _) ?_ | refine st_O (veq_i _ _) ?_ | refine st_O (vle_i _ _) ?_ | ((with_reducible refine And.intro ?_ ?_); · first | rfl | (show _ ≤ 16777216; simp only [List.length_cons, List.length_nil]; decide)))); (with_reducible conv => whnf)
  refine k_rows fun rows h hn h0 => ?_
  (repeat ((with_reducible conv => whnf); first | refine st_var rfl ?_ | refine st_pk rfl ?_ | refine st_pko rfl ?_ | with_reducible refine st_t ?_ | with_reducible refine st_f ?_ | with_reducible refine st_nt ?_ | with_reducible refine st_nf ?_ | refine st_O (vadd_i _ _) ?_ | refine st_O (vsub_i _ _) ?_ | refine st_O (veq_s _ _) ?_ | refine st_O (vne_s _ _) ?_ | refine st_O (veq_i _ _) ?_ | refine st_O (vle_i _ _) ?_ | ((with_reducible refine And.intro ?_ ?_); · first | rfl | (show _ ≤ 16777216; simp only [List.length_cons, List.length_nil]; decide)))); (with_reducible conv => whnf)
  refine k_pick (by simp only [List.length_cons, List.length_nil]; decide) (by simp only [List.length_cons, List.length_nil]; decide) fun v hv => ?_
  obtain ⟨n, rfl, hn8⟩ : ∃ n : Nat, v = .int (n : Nat) ∧ n ≤ 8 := by
    simp only [List.mem_cons, List.not_mem_nil, or_false] at hv
    rcases hv with rfl | rfl | rfl | rfl | rfl <;> exact ⟨_, rfl, by decide⟩
  (with_reducible conv => whnf)
  refine rg_go (by omega) (by omega) fun _ => ?_
  refine loop_at (J := fun j e => ∃ lot o, Lo8' rows.length j lot ∧ e = [e0, some (.sh .hand), e2, some (.sh (vR rows)), o, some (.ow (.lst (lot.map vP))), some (.sh (.lst some6))]) _ 0 ⟨[], b, ⟨(fun k h => nomatch h), Nat.le_refl _, (fun x h => nomatch h)⟩, rfl⟩ (fun j v env K hj hJ hK => ?_) fun e he => ?_
  · obtain ⟨lot, o, hl, rfl⟩ := hJ
    have hj' := (List.getElem?_eq_some_iff.mp hj).1
    rw [intsV_len] at hj'
    refine st_O rfl ?_
    exact k_ptB h0 hn hl (by omega) fun lot' hl' => hK _ ⟨lot', some (.sh v), hl', rfl⟩
  · obtain ⟨lot, o, hl, rfl⟩ := he
    rw [intsV_len] at hl
    have ll : lenV [vR rows] = some (.int (rows.length : Nat)) := by show some (Vl.int _) = _; rw [List.length_map]
    (repeat ((with_reducible conv => whnf); first | refine st_var rfl ?_ | refine st_pk rfl ?_ | refine st_pko rfl ?_ | with_reducible refine st_t ?_ | with_reducible refine st_f ?_ | with_reducible refine st_nt ?_ | with_reducible refine st_nf ?_ | refine st_O (vadd_i _ _) ?_ | refine st_O (vsub_i _ _) ?_ | refine st_O (veq_s _ _) ?_ | refine st_O (vne_s _ _) ?_ | refine st_O (veq_i _ _) ?_ | refine st_O (vle_i _ _) ?_ | ((with_reducible refine And.intro ?_ ?_); · first | rfl | (show _ ≤ 16777216; simp only [List.length_cons, List.length_nil]; decide)))); (with_reducible conv => whnf)
    refine st_O (r := vL lot) rfl ?_
    (repeat ((with_reducible conv => whnf); first | refine st_var rfl ?_ | refine st_pk rfl ?_ | refine st_pko rfl ?_ | with_reducible refine st_t ?_ | with_reducible refine st_f ?_ | with_reducible refine st_nt ?_ | with_reducible refine st_nf ?_ | refine st_O (vadd_i _ _) ?_ | refine st_O (vsub_i _ _) ?_ | refine st_O (veq_s _ _) ?_ | refine st_O (vne_s _ _) ?_ | refine st_O (veq_i _ _) ?_ | refine st_O (vle_i _ _) ?_ | ((with_reducible refine And.intro ?_ ?_); · first | rfl | (show _ ≤ 16777216; simp only [List.length_cons, List.length_nil]; decide)))); (with_reducible conv => whnf)
    refine k_right h hn (hl.to (by omega)) ?_
    (with_reducible conv => whnf)
    refine st_O rfl ?_
    (repeat ((with_reducible conv => whnf); first | refine st_var rfl ?_ | refine st_pk rfl ?_ | refine st_pko rfl ?_ | with_reducible refine st_t ?_ | with_reducible refine st_f ?_ | with_reducible refine st_nt ?_ | with_reducible refine st_nf ?_ | refine st_O (vadd_i _ _) ?_ | refine st_O (vsub_i _ _) ?_ | refine st_O (veq_s _ _) ?_ | refine st_O (vne_s _ _) ?_ | refine st_O (veq_i _ _) ?_ | refine st_O (vle_i _ _) ?_ | ((with_reducible refine And.intro ?_ ?_); · first | rfl | (show _ ≤ 16777216; simp only [List.length_cons, List.length_nil]; decide)))); (with_reducible conv => whnf)
    refine st_O ll ?_
    (repeat ((with_reducible conv => whnf); first | refine st_var rfl ?_ | refine st_pk rfl ?_ | refine st_pko rfl ?_ | with_reducible refine st_t ?_ | with_reducible refine st_f ?_ | with_reducible refine st_nt ?_ | with_reducible refine st_nf ?_ | refine st_O (vadd_i _ _) ?_ | refine st_O (vsub_i _ _) ?_ | refine st_O (veq_s _ _) ?_ | refine st_O (vne_s _ _) ?_ | refine st_O (veq_i _ _) ?_ | refine st_O (vle_i _ _) ?_ | ((with_reducible refine And.intro ?_ ?_); · first | rfl | (show _ ≤ 16777216; simp only [List.length_cons, List.length_nil]; decide)))); (with_reducible conv => whnf)
    have one : Vl.tup [.int ((rows.length : Nat) - 1 : Int)] = vL [.ix (rows.length - 1)] := by
      show _ = Vl.tup [.int ((rows.length - 1 : Nat) : Int)]
      rw [show ((rows.length - 1 : Nat) : Int) = (rows.length : Int) - 1 by omega]
    rw [one]
    refine k_right h hn ⟨⟨fun k hk => ?_, by show 1 ≤ 1000; decide⟩, by show 1 ≤ 8; decide, fun x hx => ?_⟩ ?_
    · cases List.mem_singleton.mp hk; omega
    · cases List.mem_singleton.mp hx
    · (with_reducible conv => whnf)
      refine st_O rfl ?_
      (repeat ((with_reducible conv => whnf); first | refine st_var rfl ?_ | refine st_pk rfl ?_ | refine st_pko rfl ?_ | with_reducible refine st_t ?_ | with_reducible refine st_f ?_ | with_reducible refine st_nt ?_ | with_reducible refine st_nf ?_ | refine st_O (vadd_i _ _) ?_ | refine st_O (vsub_i _ _) ?_ | refine st_O (veq_s _ _) ?_ | refine st_O (vne_s _ _) ?_ | refine st_O (veq_i _ _) ?_ | refine st_O (vle_i _ _) ?_ | ((with_reducible refine And.intro ?_ ?_); · first | rfl | (show _ ≤ 16777216; simp only [List.length_cons, List.length_nil]; decide)))); (with_reducible conv => whnf)
      exact q _ _ _ _
theorem k_rest (ns : List Int) : v_rest (some (.sh (.scr ns)) :: some (.sh .hand) :: List.replicate 5 none) { nx := fun _ => False, rt := fun v => v = .bl true } := by
  have e0 : (some (.sh (.scr ns)) :: some (.sh .hand) :: List.replicate 5 none : VEnv) = [some (.sh (.scr ns)), some (.sh .hand), none, none, none, none, none] := rfl
  have e1 : v_rest = wSeq (wFor (wiRg1 (wCons (wC (.int 8)) (wNil))) (.nm 2) tuB) (wRet (wC (.bl true))) := rfl
  rw [e0, e1]
  (with_reducible conv => whnf)
  refine rg_go (by decide) (by decide) fun _ => ?_
  refine loop_inv (J := fun e => ∃ o a b c d, e = [some (.sh (.scr ns)), some (.sh .hand), o, a, b, c, d]) ⟨_, _, _, _, _, rfl⟩ (fun v hv env K hJ hK => ?_) fun e he => rfl
  obtain ⟨o, a, b, c, d, rfl⟩ := hJ
  refine st_O rfl ?_
  exact k_tuB fun a b c d => hK _ ⟨_, a, b, c, d, rfl⟩
theorem ans : ∀ ns : List Int, ns.length ≤ 63 → ∃ S', f_law [.ref 0] [.fz (ns.map D.int)] = .ok (.bl true) S' := ans_of fun ns _ => k_rest ns
end K43

open PySem PySem.W PyProof.Rows
set_option maxRecDepth 100000 in
set_option maxHeartbeats 0 in
theorem PySem.Challenge.cw_sparewright_k43_lengths_and_tokens_of_pi_holds : PySem.Challenge.rw_sparewright_k43_lengths_and_tokens_of_pi.Holds := by
  w_on; o_law; k_head; (case hw => w_witness2)
  k_fill
  refine DL.law_end (l := PySem.Challenge.rw_sparewright_k43_lengths_and_tokens_of_pi) (k := 7) (x := "script") rfl rfl (by decide) (by decide) (fun w h Y => PySem.W.kIn_of Y) ?imp ?nsys ?F
  case imp => first | rfl | decide +kernel
  case nsys =>
    intro w
    exact rfl
  case F =>
    intro w mg fa h KX G hmg
    refine' K43.law_F (h := h) (K43.tops_mk KX G ?yS ?z_enumerate ?z_int ?z_isinstance ?z_len ?z_list ?z_max ?z_range ?z_repr ?z_str ?z_sum ?z_tuple ?g_CALL ?g_METHOD ?g_TOKEN ?xa0 ?xa1 ?zsuper ?opq ?xtop ?xl1 ?gl0 ?gi0 ?xsa1 ?xga1 ?xgg1 ?xn1length ?xi1 ?xt1 ?xk1 ?xb1 ?xe1 ?xy1 ?xh1 ?xf1 ?xg1 ?xc1 ?xo1 ?xp1 ?xq1 ?hd0 ?ht0 ?hb0 ?es1_0 ?hd1 ?ht1 ?hb1 ?es1_1 ?dn ?dt ?dc1 ?dm1 ?a0 ?l0 ?c0 ?k0 ?a1 ?l1 ?c1 ?k1 ?a2 ?l2 ?c2 ?k2 ?a3 ?l3 ?c3 ?k3 ?a4 ?l4 ?c4 ?k4 ?a5 ?l5 ?c5 ?k5 ?a6 ?l6 ?c6 ?k6 ?a7 ?l7 ?c7 ?k7 ?a8 ?l8 ?c8 ?k8 ?a9 ?l9 ?c9 ?k9 ?a10 ?l10 ?c10 ?k10 ?a11 ?l11 ?c11 ?k11 ?a12 ?l12 ?c12 ?k12 ?a13 ?l13 ?c13 ?k13 ?a14 ?l14 ?c14 ?k14 ?a15 ?l15 ?c15 ?k15 ?kv11 ?kn11most) hmg K43.ans
    (case yS => exact rfl); (case z_enumerate => k_is); (case z_int => k_is); (case z_isinstance => k_is); (case z_len => k_is); (case z_list => k_is); (case z_max => k_is); (case z_range => k_is); (case z_repr => k_is); (case z_str => k_is); (case z_sum => k_is); (case z_tuple => k_is); (case g_CALL => k_is); (case g_METHOD => k_is); (case g_TOKEN => k_is); (case xa0 => k_is); (case xa1 => k_is); (case zsuper => k_is); (case opq => k_is); (case xtop => first | rfl | decide +kernel); (case xl1 => k_is); (case gl0 => k_is); (case gi0 => k_is); (case xsa1 => k_is); (case xga1 => k_is); (case xgg1 => k_is); (case xn1length => k_is); (case xi1 => k_is); (case xt1 => k_is); (case xk1 => k_is); (case xb1 => k_is); (case xe1 => k_is); (case xy1 => k_is); (case xh1 => k_is); (case xf1 => k_is); (case xg1 => k_is); (case xc1 => k_is); (case xo1 => k_is); (case xp1 => rfl); (case xq1 => first | rfl | decide +kernel); (case hd0 => k_is); (case ht0 => k_is); (case hb0 => k_is); (case es1_0 => first | rfl | k_is); (case hd1 => k_is); (case ht1 => k_is); (case hb1 => k_is); (case es1_1 => first | rfl | k_is); (case dn => k_is); (case dt => k_is); (case dc1 => k_is); (case dm1 => k_is); (case a0 => k_is); (case l0 => k_is); (case c0 => k_is); (case k0 => k_is); (case a1 => k_is); (case l1 => k_is); (case c1 => k_is); (case k1 => k_is); (case a2 => k_is); (case l2 => k_is); (case c2 => k_is); (case k2 => k_is); (case a3 => k_is); (case l3 => k_is); (case c3 => k_is); (case k3 => k_is); (case a4 => k_is); (case l4 => k_is); (case c4 => k_is); (case k4 => k_is); (case a5 => k_is); (case l5 => k_is); (case c5 => k_is); (case k5 => k_is); (case a6 => k_is); (case l6 => k_is); (case c6 => k_is); (case k6 => k_is); (case a7 => k_is); (case l7 => k_is); (case c7 => k_is); (case k7 => k_is); (case a8 => k_is); (case l8 => k_is); (case c8 => k_is); (case k8 => k_is); (case a9 => k_is); (case l9 => k_is); (case c9 => k_is); (case k9 => k_is); (case a10 => k_is); (case l10 => k_is); (case c10 => k_is); (case k10 => k_is); (case a11 => k_is); (case l11 => k_is); (case c11 => k_is); (case k11 => k_is); (case a12 => k_is); (case l12 => k_is); (case c12 => k_is); (case k12 => k_is); (case a13 => k_is); (case l13 => k_is); (case c13 => k_is); (case k13 => k_is); (case a14 => k_is); (case l14 => k_is); (case c14 => k_is); (case k14 => k_is); (case a15 => k_is); (case l15 => k_is); (case c15 => k_is); (case k15 => k_is); (case kv11 => exact rfl); (case kn11most => k_is)
