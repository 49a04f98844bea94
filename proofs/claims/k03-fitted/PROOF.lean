import PyProof.Rows.All
import Wide.All
import OpenK.AllK
import Wide.FinOn
import HandS.ForMost
import HandS.ForExc
import HandS.TupAny
import HandS.TupLe
import HandS.Deep
import HandS.IsInst
import HandS.Small
import HandS.Flow
import HandS.TryOnly
import HandS.Zip
import HandS.ExcOwn
import HandS.WordsExc
import HandS.StrMore
import PyProof.CallFns
import PyProof.ReprRoads
import HandS.Style
import PyProof.StrLawsRepr
import HandS.Zip0
import KE.GoesEnumKw
import PyProof.Rows.CallKwBuiltin
import HandS.SortKw
import PySem.Challenge.RW_sparewright_k03_kinds_put_in_and_fitted
set_option Elab.async false
set_option linter.all false
set_option maxRecDepth 100000
/-! the D-layer: data, store, relations -/
namespace DL
open PySem L2

/-- a value as data; ref: a mutable object of the store; raw: anything else, as it is -/
inductive D where
  | non | bl (b : Bool) | int (i : Int) | str (x : Str) | tup (xs : List D) | ref (n : Nat) | raw (v : V)
/-- a mutable object (fz: the script, read alone) -/
inductive Cell where
  | lst (xs : List D) | fz (xs : List D) | dct (kvs : List (Key × D)) | ins (C : Addr) (fs : List (Str × D))
abbrev Sto := List Cell
abbrev Ev := List (Option D)
structure Exn where
  C : Addr
  fs : List (Str × D)
inductive R (α : Type) where
  | stk | ok (a : α) (S : Sto) | ex (e : Exn) (S : Sto)
def isMut : Cell → Bool
  | .fz _ => false
  | _ => true

section
variable (K : PySem.W.Frag) (ι : List Addr) (H : Hp)
mutual
def RD : D → V → Prop
  | .non, v => v = .non
  | .bl b, v => v = .bl b
  | .int i, v => v = .int i
  | .str x, v => v = .str x
  | .tup xs, v => ∃ p vs, v = .ref p ∧ SqT K H p vs ∧ RDs xs vs
  | .ref n, v => ∃ p, v = .ref p ∧ ι[n]? = some p
  | .raw u, v => v = u
def RDs : List D → List V → Prop
  | [], vs => vs = []
  | d :: ds, vs => ∃ v r, vs = v :: r ∧ RD d v ∧ RDs ds r
end
def RKs {κ : Type} : List (κ × D) → List (κ × V) → Prop
  | [], vs => vs = []
  | (k, d) :: ds, vs => ∃ v r, vs = (k, v) :: r ∧ RD K ι H d v ∧ RKs ds r
def RC (p : Addr) : Cell → Prop
  | .lst ds => ∃ vs, H p = some (.lst vs) ∧ RDs K ι H ds vs
  | .fz ds => ∃ vs, ((∃ o, H p = some (.frz o (.lst vs))) ∨ ∀ H', SqL K H' p vs) ∧ RDs K ι H ds vs
  | .dct kvs => ∃ vs, H p = some (.dK vs) ∧ RKs K ι H kvs vs
  | .ins C fs => ∃ dx vs, H p = some (.ins C dx vs) ∧ RKs K ι H fs vs
structure RS (S : Sto) : Prop where
  len : ι.length = S.length
  at_ : ∀ (n : Nat) (c : Cell), S[n]? = some c → ∃ p, ι[n]? = some p ∧ RC K ι H p c
  inj : ∀ (n m : Nat) (p : Addr) (c c' : Cell), ι[n]? = some p → ι[m]? = some p → S[n]? = some c → S[m]? = some c' → isMut c = true → isMut c' = true → n = m
  sys : ∃ o y, H sysModules = some (.frz o (.own y))
/-- the names' slots -/
structure RE (ρ : Ev) (σ : L2.St) : Prop where
  len : ρ.length = σ.length
  at_ : ∀ (i : Nat) (d : D), ρ[i]? = some (some d) → ∃ v, σ[i]? = some (some v) ∧ RD K ι H d v
def RX (e : Exn) (cls : Value) (d : Option Addr) : Prop :=
  cls = .ref e.C ∧ ((d = none ∧ e.fs = []) ∨ ∃ dd vs, d = some dd ∧ H dd = some (.xd vs) ∧ RKs K ι H e.fs vs)
end
structure Ext (K : PySem.W.Frag) (ι : List Addr) (H : Hp) (ι' : List Addr) (H' : Hp) : Prop where
  pre : ι <+: ι'
  tup : ∀ a xs, SqT K H a xs → SqT K H' a xs

section
variable {K : PySem.W.Frag} {ι ι' ι'' : List Addr} {H H' H'' : Hp} {S S' : Sto} {ρ : Ev} {σ : L2.St}
theorem Ext.refl : Ext K ι H ι H := ⟨List.prefix_refl _, fun _ _ h => h⟩
theorem Ext.trans (a : Ext K ι H ι' H') (b : Ext K ι' H' ι'' H'') : Ext K ι H ι'' H'' := ⟨a.pre.trans b.pre, fun p xs h => b.tup p xs (a.tup p xs h)⟩
theorem Ext.ix (a : Ext K ι H ι' H') {n : Nat} {p : Addr} (h : ι[n]? = some p) : ι'[n]? = some p := by
  obtain ⟨t, rfl⟩ := a.pre
  obtain ⟨hl, _⟩ := List.getElem?_eq_some_iff.mp h
  rw [List.getElem?_append_left hl]; exact h
mutual
theorem RD.mono (x : Ext K ι H ι' H') : ∀ {d : D} {v : V}, RD K ι H d v → RD K ι' H' d v
  | .non, v, h => by simpa only [RD] using h
  | .bl b, v, h => by simpa only [RD] using h
  | .int i, v, h => by simpa only [RD] using h
  | .str y, v, h => by simpa only [RD] using h
  | .raw u, v, h => by simpa only [RD] using h
  | .ref n, v, h => by
    simp only [RD] at h ⊢
    obtain ⟨p, e, q⟩ := h
    exact ⟨p, e, x.ix q⟩
  | .tup xs, v, h => by
    simp only [RD] at h ⊢
    obtain ⟨p, vs, e, q, r⟩ := h
    exact ⟨p, vs, e, x.tup _ _ q, RDs.mono x r⟩
theorem RDs.mono (x : Ext K ι H ι' H') : ∀ {ds : List D} {vs : List V}, RDs K ι H ds vs → RDs K ι' H' ds vs
  | [], vs, h => by simpa only [RDs] using h
  | d :: ds, vs, h => by
    simp only [RDs] at h ⊢
    obtain ⟨v, r, e, q, t⟩ := h
    exact ⟨v, r, e, RD.mono x q, RDs.mono x t⟩
end
theorem RKs.mono {κ : Type} (x : Ext K ι H ι' H') : ∀ {ds : List (κ × D)} {vs : List (κ × V)}, RKs K ι H ds vs → RKs K ι' H' ds vs
  | [], vs, h => by simpa only [RKs] using h
  | (k, d) :: ds, vs, h => by
    simp only [RKs] at h ⊢
    obtain ⟨v, r, e, q, t⟩ := h
    exact ⟨v, r, e, RD.mono x q, RKs.mono x t⟩
theorem RE.mono (x : Ext K ι H ι' H') (r : RE K ι H ρ σ) : RE K ι' H' ρ σ :=
  ⟨r.len, fun i d e => let ⟨v, a, b⟩ := r.at_ i d e; ⟨v, a, RD.mono x b⟩⟩
theorem RC.mono (x : Ext K ι H ι' H') {p : Addr} {c : Cell} (e : H' p = H p) (h : RC K ι H p c) : RC K ι' H' p c := by
  cases c with
  | lst ds => obtain ⟨vs, a, b⟩ := h; exact ⟨vs, by rw [e]; exact a, RDs.mono x b⟩
  | fz ds =>
    obtain ⟨vs, a, b⟩ := h
    refine ⟨vs, ?_, RDs.mono x b⟩
    rcases a with ⟨o, a⟩ | a
    · exact .inl ⟨o, by rw [e]; exact a⟩
    · exact .inr a
  | dct kvs => obtain ⟨vs, a, b⟩ := h; exact ⟨vs, by rw [e]; exact a, RKs.mono x b⟩
  | ins C fs => obtain ⟨dx, vs, a, b⟩ := h; exact ⟨dx, vs, by rw [e]; exact a, RKs.mono x b⟩
theorem RC.some_of {p : Addr} {c : Cell} (m : isMut c = true) (h : RC K ι H p c) : ∃ o, H p = some o ∧ (∀ xs, o ≠ .tup xs) ∧ (∀ b u, o ≠ .frz b u) ∧ Mut (some o) := by
  cases c with
  | lst ds => obtain ⟨vs, a, b⟩ := h; exact ⟨_, a, fun _ z => (by cases z), fun _ _ z => (by cases z), trivial⟩
  | fz ds => cases m
  | dct kvs => obtain ⟨vs, a, b⟩ := h; exact ⟨_, a, fun _ z => (by cases z), fun _ _ z => (by cases z), trivial⟩
  | ins C fs => obtain ⟨dx, vs, a, b⟩ := h; exact ⟨_, a, fun _ z => (by cases z), fun _ _ z => (by cases z), trivial⟩

/-- tuples stay where another kind of object is written -/
theorem sqT_upd {p : Addr} {o o' : HO} {a : Addr} {xs : List V} (e : H p = some o) (nt : ∀ xs, o ≠ .tup xs) (nf : ∀ b u, o ≠ .frz b u) (h : SqT K H a xs) : SqT K (upd H p o') a xs := by
  rcases h with (h | ⟨b, h⟩) | h
  · exact .inl (.inl (by rw [upd_ne (fun z => by subst z; rw [e] at h; exact nt _ (Option.some.inj h))]; exact h))
  · exact .inl (.inr ⟨b, by rw [upd_ne (fun z => by subst z; rw [e] at h; exact nf _ _ (Option.some.inj h))]; exact h⟩)
  · exact .inr h
theorem sqT_new {p : Addr} {o' : HO} {a : Addr} {xs : List V} (e : H p = none) (h : SqT K H a xs) : SqT K (upd H p o') a xs := by
  rcases h with (h | ⟨b, h⟩) | h
  · exact .inl (.inl (by rw [upd_ne (ne_of_none h e)]; exact h))
  · exact .inl (.inr ⟨b, by rw [upd_ne (ne_of_none h e)]; exact h⟩)
  · exact .inr h
theorem Ext.new {p : Addr} {o : HO} (e : H p = none) : Ext K ι H ι (upd H p o) := ⟨List.prefix_refl _, fun _ _ h => sqT_new e h⟩
theorem Ext.push {p : Addr} {o : HO} (e : H p = none) : Ext K ι H (ι ++ [p]) (upd H p o) := ⟨List.prefix_append _ _, fun _ _ h => sqT_new e h⟩
theorem Ext.put {p : Addr} {o o' : HO} (e : H p = some o) (nt : ∀ xs, o ≠ .tup xs) (nf : ∀ b u, o ≠ .frz b u) : Ext K ι H ι (upd H p o') := ⟨List.prefix_refl _, fun _ _ h => sqT_upd e nt nf h⟩

theorem RC.ne {p q : Addr} {c : Cell} (h : RC K ι H q c) (e : H p = none) (x : Ext K ι H ι' H') (hk : ∀ b, b ≠ p → H' b = H b) : RC K ι' H' q c := by
  by_cases hqp : q = p
  · subst hqp
    cases c with
    | fz ds =>
      obtain ⟨vs, a, b⟩ := h
      rcases a with ⟨o, a⟩ | a
      · rw [e] at a; cases a
      · exact ⟨vs, .inr a, RDs.mono x b⟩
    | lst ds => obtain ⟨vs, a, b⟩ := h; rw [e] at a; cases a
    | dct ds => obtain ⟨vs, a, b⟩ := h; rw [e] at a; cases a
    | ins C ds => obtain ⟨dx, vs, a, b⟩ := h; rw [e] at a; cases a
  · exact h.mono x (hk q hqp)
theorem sys_new {p : Addr} {o : HO} (h : ∃ o y, H sysModules = some (.frz o (.own y))) (e : H p = none) : ∃ o' y, upd H p o sysModules = some (.frz o' (.own y)) := by
  obtain ⟨o', y, h⟩ := h
  exact ⟨o', y, by rw [upd_ne (fun z => by rw [z, e] at h; cases h)]; exact h⟩
theorem sys_put {p : Addr} {o o0 : HO} (h : ∃ o y, H sysModules = some (.frz o (.own y))) (e : H p = some o0) (nf : ∀ b u, o0 ≠ .frz b u) : ∃ o' y, upd H p o sysModules = some (.frz o' (.own y)) := by
  obtain ⟨o', y, h⟩ := h
  exact ⟨o', y, by rw [upd_ne (fun z => by rw [z, e] at h; exact nf _ _ (Option.some.inj h))]; exact h⟩
/-- an object that the store doesn't speak of is new -/
theorem RS.new {p : Addr} {o : HO} (r : RS K ι H S) (e : H p = none) : RS K ι (upd H p o) S :=
  ⟨r.len, fun n c h => let ⟨q, a, b⟩ := r.at_ n c h; ⟨q, a, b.ne e (.new e) fun _ hb => upd_ne hb⟩, r.inj, sys_new r.sys e⟩
/-- a new object of the store -/
theorem RS.push {p : Addr} {o : HO} {c : Cell} (r : RS K ι H S) (e : H p = none) (m : isMut c = true) (h : RC K (ι ++ [p]) (upd H p o) p c) : RS K (ι ++ [p]) (upd H p o) (S ++ [c]) := by
  have hl := r.len
  have key : ∀ n c', S[n]? = some c' → isMut c' = true → ι[n]? ≠ some p := fun n c' h1 h2 h3 => by
    obtain ⟨q, a, b⟩ := r.at_ n c' h1
    rw [h3] at a; cases a
    obtain ⟨o, ho, _⟩ := b.some_of h2
    rw [e] at ho; cases ho
  have lo : ∀ {n : Nat} {c' : Cell}, (S ++ [c])[n]? = some c' → (n < S.length ∧ S[n]? = some c') ∨ (n = S.length ∧ c' = c) := fun {n c'} h => by
    by_cases hn : n < S.length
    · rw [List.getElem?_append_left hn] at h; exact .inl ⟨hn, h⟩
    · rw [List.getElem?_append_right (Nat.le_of_not_lt hn)] at h
      have : n - S.length < 1 := by
        have := (List.getElem?_eq_some_iff.mp h).1
        simpa using this
      have e0 : n - S.length = 0 := by omega
      rw [e0] at h
      exact .inr ⟨by omega, (Option.some.inj h).symm⟩
  refine ⟨by simp [hl], fun n c' h' => ?_, fun n m' q c1 c2 h1 h2 h3 h4 m1 m2 => ?_, sys_new r.sys e⟩
  · rcases lo h' with ⟨hn, h'⟩ | ⟨rfl, rfl⟩
    · obtain ⟨q, a, b⟩ := r.at_ n c' h'
      exact ⟨q, by rw [List.getElem?_append_left (by omega)]; exact a, b.ne e (.push e) fun _ hb => upd_ne hb⟩
    · exact ⟨p, by rw [← hl]; simp, h⟩
  · rcases lo h3 with ⟨hn, g3⟩ | ⟨e3, f3⟩
    · rw [List.getElem?_append_left (by omega)] at h1
      rcases lo h4 with ⟨hm, g4⟩ | ⟨e4, f4⟩
      · rw [List.getElem?_append_left (by omega)] at h2
        exact r.inj n m' q c1 c2 h1 h2 g3 g4 m1 m2
      · rw [e4, ← hl] at h2
        simp at h2
        subst h2
        exact absurd h1 (key n c1 g3 m1)
    · rcases lo h4 with ⟨hm, g4⟩ | ⟨e4, f4⟩
      · rw [List.getElem?_append_left (by omega)] at h2
        rw [e3, ← hl] at h1
        simp at h1
        subst h1
        exact absurd h2 (key m' c2 g4 m2)
      · rw [e3, e4]
/-- an object of the store is written -/
theorem RS.put {n : Nat} {p : Addr} {o : HO} {c c' : Cell} (r : RS K ι H S) (hn : S[n]? = some c) (hp : ι[n]? = some p) (m : isMut c = true) (m' : isMut c' = true) (h : RC K ι (upd H p o) p c') : RS K ι (upd H p o) (S.set n c') := by
  obtain ⟨q, hq, hc⟩ := r.at_ n c hn
  rw [hp] at hq; cases hq
  obtain ⟨o0, ho, nt, nf, _⟩ := hc.some_of m
  have hnl : n < S.length := (List.getElem?_eq_some_iff.mp hn).1
  refine ⟨by simp [r.len], fun k c1 h1 => ?_, fun k1 k2 q c1 c2 h1 h2 h3 h4 m1 m2 => ?_, sys_put r.sys ho nf⟩
  · by_cases hk : k = n
    · subst hk
      rw [List.getElem?_set_self hnl] at h1
      cases h1
      exact ⟨p, hp, h⟩
    · rw [List.getElem?_set_ne (Ne.symm hk)] at h1
      obtain ⟨q, a, b⟩ := r.at_ k c1 h1
      refine ⟨q, a, ?_⟩
      by_cases hqp : q = p
      · subst hqp
        cases hm : isMut c1 with
        | true => exact absurd (r.inj k n q c1 c a hp h1 hn hm m) hk
        | false =>
          cases c1 with
          | fz ds =>
            obtain ⟨vs, a', b'⟩ := b
            rcases a' with ⟨ob, a'⟩ | a'
            · rw [ho] at a'; exact absurd (Option.some.inj a') (nf _ _)
            · exact ⟨vs, .inr a', RDs.mono (.put ho nt nf) b'⟩
          | _ => cases hm
      · exact b.mono (.put ho nt nf) (upd_ne hqp)
  · have back : ∀ {k : Nat} {c1 : Cell}, (S.set n c')[k]? = some c1 → isMut c1 = true → ∃ c0, S[k]? = some c0 ∧ isMut c0 = true := fun {k c1} h hm => by
      by_cases hk : k = n
      · subst hk; exact ⟨c, hn, m⟩
      · rw [List.getElem?_set_ne (Ne.symm hk)] at h; exact ⟨c1, h, hm⟩
    obtain ⟨d1, e1, f1⟩ := back h3 m1
    obtain ⟨d2, e2, f2⟩ := back h4 m2
    exact r.inj k1 k2 q d1 d2 h1 h2 e1 e2 f1 f2

/-! ### lists of data -/
theorem RDs.length : ∀ {ds : List D} {vs : List V}, RDs K ι H ds vs → vs.length = ds.length
  | [], vs, h => by simp only [RDs] at h; subst h; rfl
  | d :: ds, vs, h => by
    simp only [RDs] at h
    obtain ⟨v, r, rfl, _, t⟩ := h
    simp [RDs.length t]
theorem RDs.get : ∀ {ds : List D} {vs : List V} {i : Nat} {d : D}, RDs K ι H ds vs → ds[i]? = some d → ∃ v, vs[i]? = some v ∧ RD K ι H d v
  | [], _, _, _, _, e => by simp at e
  | d :: ds, vs, 0, d', h, e => by
    simp only [RDs] at h
    obtain ⟨v, r, rfl, q, t⟩ := h
    simp at e; subst e
    exact ⟨v, rfl, q⟩
  | d :: ds, vs, i + 1, d', h, e => by
    simp only [RDs] at h
    obtain ⟨v, r, rfl, q, t⟩ := h
    simp at e
    obtain ⟨u, a, b⟩ := RDs.get t e
    exact ⟨u, by simpa using a, b⟩
theorem RDs.getV : ∀ {ds : List D} {vs : List V} {i : Nat} {v : V}, RDs K ι H ds vs → vs[i]? = some v → ∃ d, ds[i]? = some d ∧ RD K ι H d v := fun {ds vs i v} h e => by
  have hl := h.length
  have : i < ds.length := by rw [← hl]; exact (List.getElem?_eq_some_iff.mp e).1
  obtain ⟨u, a, b⟩ := h.get (List.getElem?_eq_getElem this)
  rw [e] at a; cases a
  exact ⟨_, List.getElem?_eq_getElem this, b⟩
theorem RDs.append : ∀ {ds es : List D} {vs us : List V}, RDs K ι H ds vs → RDs K ι H es us → RDs K ι H (ds ++ es) (vs ++ us)
  | [], es, vs, us, h, q => by simp only [RDs] at h; subst h; exact q
  | d :: ds, es, vs, us, h, q => by
    simp only [RDs] at h
    obtain ⟨v, r, rfl, a, t⟩ := h
    show RDs K ι H (d :: (ds ++ es)) (v :: (r ++ us))
    simp only [RDs]
    exact ⟨v, _, rfl, a, RDs.append t q⟩
theorem RDs.nil : RDs K ι H [] [] := by simp only [RDs]
theorem RDs.cons {d : D} {ds : List D} {v : V} {vs : List V} (a : RD K ι H d v) (b : RDs K ι H ds vs) : RDs K ι H (d :: ds) (v :: vs) := by
  simp only [RDs]; exact ⟨v, vs, rfl, a, b⟩
theorem RDs.take : ∀ (n : Nat) {ds : List D} {vs : List V}, RDs K ι H ds vs → RDs K ι H (ds.take n) (vs.take n)
  | 0, _, _, _ => by simp only [List.take_zero]; exact .nil
  | n + 1, [], vs, h => by simp only [RDs] at h; subst h; simp only [List.take_nil]; exact .nil
  | n + 1, d :: ds, vs, h => by
    simp only [RDs] at h
    obtain ⟨v, r, rfl, a, t⟩ := h
    exact .cons a (RDs.take n t)
theorem RDs.drop : ∀ (n : Nat) {ds : List D} {vs : List V}, RDs K ι H ds vs → RDs K ι H (ds.drop n) (vs.drop n)
  | 0, _, _, h => h
  | n + 1, [], vs, h => by simp only [RDs] at h; subst h; simp only [List.drop_nil]; exact .nil
  | n + 1, d :: ds, vs, h => by
    simp only [RDs] at h
    obtain ⟨v, r, rfl, a, t⟩ := h
    exact RDs.drop n t
theorem RDs.set : ∀ (n : Nat) {ds : List D} {vs : List V} {d : D} {v : V}, RDs K ι H ds vs → RD K ι H d v → RDs K ι H (ds.set n d) (vs.set n v)
  | _, [], vs, d, v, h, q => by simp only [RDs] at h; subst h; exact .nil
  | 0, d0 :: ds, vs, d, v, h, q => by
    simp only [RDs] at h
    obtain ⟨v0, r, rfl, a, t⟩ := h
    exact .cons q t
  | n + 1, d0 :: ds, vs, d, v, h, q => by
    simp only [RDs] at h
    obtain ⟨v0, r, rfl, a, t⟩ := h
    exact .cons a (RDs.set n t q)
theorem RDs.nil_iff {ds : List D} {vs : List V} (h : RDs K ι H ds vs) : vs = [] ↔ ds = [] := by
  have := h.length
  constructor
  · intro e; subst e; exact List.length_eq_zero_iff.mp (by simpa using this.symm)
  · intro e; subst e; exact List.length_eq_zero_iff.mp (by simpa using this)
theorem RDs.isEmpty {ds : List D} {vs : List V} (h : RDs K ι H ds vs) : vs.isEmpty = ds.isEmpty := by
  cases ds with
  | nil => simp only [RDs] at h; subst h; rfl
  | cons d ds => simp only [RDs] at h; obtain ⟨v, r, rfl, _⟩ := h; rfl
theorem RDs.ints : ∀ {ns : List Int} {vs : List V}, RDs K ι H (ns.map D.int) vs → vs = ns.map V.int
  | [], vs, h => by simpa only [List.map_nil, RDs] using h
  | n :: ns, vs, h => by
    simp only [List.map_cons, RDs, RD] at h
    obtain ⟨v, r, rfl, rfl, t⟩ := h
    rw [RDs.ints t]; rfl
theorem RDs.of_ints : ∀ ns : List Int, RDs K ι H (ns.map D.int) (ns.map V.int)
  | [] => .nil
  | n :: ns => .cons (by simp only [RD]) (RDs.of_ints ns)
end
end DL

/-! the D-layer: expressions -/
namespace DL
open PySem L2

def R.bind {α β : Type} (r : R α) (f : α → Sto → R β) : R β :=
  match r with
  | .stk => .stk
  | .ok a S => f a S
  | .ex e S => .ex e S
def ofO {α : Type} : Option (α × Sto) → R α
  | none => .stk
  | some (a, S) => .ok a S
@[simp] theorem bind_ok {α β : Type} (a : α) (S : Sto) (f : α → Sto → R β) : (R.ok a S).bind f = f a S := rfl
@[simp] theorem bind_stk {α β : Type} (f : α → Sto → R β) : (R.stk : R α).bind f = .stk := rfl
@[simp] theorem bind_ex {α β : Type} (e : Exn) (S : Sto) (f : α → Sto → R β) : (R.ex e S : R α).bind f = .ex e S := rfl
@[simp] theorem ofO_some {α : Type} (a : α) (S : Sto) : ofO (some (a, S)) = .ok a S := rfl
@[simp] theorem ofO_none {α : Type} : (ofO none : R α) = .stk := rfl

abbrev EM := Ev → Sto → R D
abbrev TM := Ev → Sto → R Bool
abbrev AM := Ev → Sto → R (List D)
abbrev Rel (α β : Type) := List Addr → Hp → α → β → Prop

section
variable {α β : Type} (K : PySem.W.Frag)
/-- what is wanted of a result -/
def PR (rel : Rel α β) (W : WX) (σ : L2.St) (ι : List Addr) (H : Hp) (Q : β → Hp → Prop) : R α → Prop
  | .stk => False
  | .ok d S' => ∀ ι' v H', Ext K ι H ι' H' → RS K ι' H' S' → rel ι' H' d v → Q v H'
  | .ex e S' => ∀ ι' H' cls dd, Ext K ι H ι' H' → RS K ι' H' S' → RX K ι' H' e cls dd → W cls dd σ H'
abbrev rD : Rel D V := fun ι H d v => RD K ι H d v
abbrev rB : Rel Bool Bool := fun _ _ b c => c = b
abbrev rDs : Rel (List D) (List V) := fun ι H d v => RDs K ι H d v
/-- the reading of a function of the slots and the store -/
def tG (rel : Rel α β) (W : WX) (m : Ev → Sto → R α) : L2.St → Hp → (β → Hp → Prop) → Prop := fun σ H Q =>
  ∃ ι ρ S, RE K ι H ρ σ ∧ RS K ι H S ∧ PR K rel W σ ι H Q (m ρ S)
end
abbrev tM (K : PySem.W.Frag) (W : WX) (m : EM) : TE := tG K (rD K) W m
abbrev tMT (K : PySem.W.Frag) (W : WX) (m : TM) : TT := tG K rB W m
abbrev tMA (K : PySem.W.Frag) (W : WX) (m : AM) : TA := tG K (rDs K) W m
/-- an expression is m -/
abbrev SE (X : Cx) (W : WX) (e : Expr) (m : EM) : Prop := PE X e (tM X.K W m)
abbrev SA (X : Cx) (W : WX) (es : List Expr) (m : AM) : Prop := PA X es (tMA X.K W m)

section
variable {α β : Type} {K : PySem.W.Frag} {ι ι' : List Addr} {H H' : Hp} {S : Sto} {ρ : Ev} {σ : L2.St} {W : WX}
theorem PR.mono {rel : Rel α β} {Q : β → Hp → Prop} (x : Ext K ι H ι' H') {r : R α} (h : PR K rel W σ ι H Q r) : PR K rel W σ ι' H' Q r := by
  cases r with
  | stk => exact h
  | ok d S' => exact fun ι2 v H2 x2 => h ι2 v H2 (x.trans x2)
  | ex e S' => exact fun ι2 H2 cls dd x2 => h ι2 H2 cls dd (x.trans x2)
theorem PR.imp {rel : Rel α β} {Q Q' : β → Hp → Prop} (q : ∀ v H, Q v H → Q' v H) {r : R α} (h : PR K rel W σ ι H Q r) : PR K rel W σ ι H Q' r := by
  cases r with
  | stk => exact h
  | ok d S' => exact fun ι2 v H2 x2 a b => q _ _ (h ι2 v H2 x2 a b)
  | ex e S' => exact h
/-- m, then k: what is known behind m -/
theorem PR.bind {α' β' : Type} {rel : Rel α β} {rel' : Rel α' β'} {Q : β' → Hp → Prop} {r : R α} {k : α → Sto → R α'} (h : PR K rel' W σ ι H Q (r.bind k)) :
    PR K rel W σ ι H (fun v H1 => ∃ ι1 d S1, Ext K ι H ι1 H1 ∧ RS K ι1 H1 S1 ∧ rel ι1 H1 d v ∧ PR K rel' W σ ι1 H1 Q (k d S1)) r := by
  cases r with
  | stk => exact h
  | ok d S' => exact fun ι2 v H2 x2 a b => ⟨ι2, d, S', x2, a, b, PR.mono x2 h⟩
  | ex e S' => exact h
theorem tG.bind {α' β' : Type} {rel : Rel α β} {rel' : Rel α' β'} {Q : β' → Hp → Prop} {m : Ev → Sto → R α} {k : α → Sto → R α'} (re : RE K ι H ρ σ) (rs : RS K ι H S) (h : PR K rel' W σ ι H Q ((m ρ S).bind k)) :
    tG K rel W m σ H (fun v H1 => ∃ ι1 d S1, Ext K ι H ι1 H1 ∧ RS K ι1 H1 S1 ∧ rel ι1 H1 d v ∧ PR K rel' W σ ι1 H1 Q (k d S1)) :=
  ⟨ι, ρ, S, re, rs, h.bind⟩
theorem tG.go {rel : Rel α β} {Q : β → Hp → Prop} {m : Ev → Sto → R α} (re : RE K ι H ρ σ) (rs : RS K ι H S) (h : PR K rel W σ ι H Q (m ρ S)) : tG K rel W m σ H Q := ⟨ι, ρ, S, re, rs, h⟩
/-- the value here and now -/
theorem PR.ret {rel : Rel α β} {Q : β → Hp → Prop} {d : α} {v : β} (h : PR K rel W σ ι H Q (.ok d S)) (rs : RS K ι H S) (r : rel ι H d v) : Q v H := h ι v H .refl rs r
end
section
variable {X : Cx}
theorem PE.imp {e : Expr} {t t' : TE} (h : PE X e t) (q : ∀ σ H Q, t' σ H Q → t σ H Q) : PE X e t' := ⟨fun pins s σ H Q I w => h.run pins s σ H Q I (q _ _ _ w)⟩
theorem PT.imp {e : Expr} {t t' : TT} (h : PT X e t) (q : ∀ σ H Q, t' σ H Q → t σ H Q) : PT X e t' := ⟨fun pins s σ H Q I w => h.run pins s σ H Q I (q _ _ _ w)⟩
theorem PA.imp {es : List Expr} {t t' : TA} (h : PA X es t) (q : ∀ σ H Q, t' σ H Q → t σ H Q) : PA X es t' := ⟨fun pos pins s σ H Q I w => h.run pos pins s σ H Q I (q _ _ _ w)⟩
theorem PS.imp {e : Stmt} {t t' : TS} (h : PS X e t) (q : ∀ D σ H, t' D σ H → t D σ H) : PS X e t' := ⟨fun pins s σ H D I w => h.run pins s σ H D I (q _ _ _ w)⟩
theorem PSs.imp {e : List Stmt} {t t' : TS} (h : PSs X e t) (q : ∀ D σ H, t' D σ H → t D σ H) : PSs X e t' := ⟨fun pins s σ H D I w => h.run pins s σ H D I (q _ _ _ w)⟩
end

/-! ### names and constants -/
def mVar (i : Nat) : EM := fun ρ S => match ρ[i]? with
  | some (some d) => .ok d S
  | _ => .stk
def mC (d : D) : EM := fun _ S => .ok d S
section
variable {X : Cx} {W : WX} {pos : Pos}
theorem se_var (i : Nat) {x : Str} (hN : X.N[i]? = some x := by rfl) (hv : Vis X.env.scope x := by first | exact Or.inl rfl | exact Or.inr (Or.inl rfl) | exact Or.inr (Or.inr rfl)) (hd : (x == ("__debug__" : Str)) = false := by decide)
    (hcd : (x == ("__classdict__" : Str)) = false := by decide) : SE X W (.Name x pos) (mVar i) := by
  refine PE.imp (pe_var (i := i) hN hv hd hcd) fun σ H Q h => ?_
  obtain ⟨ι, ρ, S, re, rs, h⟩ := h
  unfold mVar at h
  split at h
  · rename_i d e
    obtain ⟨v, a, b⟩ := re.at_ i d e
    exact ⟨v, a, h.ret rs b⟩
  · exact h.elim
theorem tG_c {K : PySem.W.Frag} {σ : L2.St} {H : Hp} {Q : VK} {d : D} {v : V} (r : ∀ ι H, RD K ι H d v) (h : tM K W (mC d) σ H Q) : Q v H := by
  obtain ⟨ι, ρ, S, re, rs, h⟩ := h
  exact h.ret rs (r _ _)
theorem se_int {i : Int} {j : Nat} : SE X W (.Constant (.int i) j pos) (mC (.int i)) := PE.imp pe_int fun σ H Q h => tG_c (v := .int i) (fun _ _ => by simp only [RD]) h
theorem se_bl {b : Bool} {j : Nat} : SE X W (.Constant (.bool b) j pos) (mC (.bl b)) := PE.imp pe_bl fun σ H Q h => tG_c (v := .bl b) (fun _ _ => by simp only [RD]) h
theorem se_non {j : Nat} : SE X W (.Constant .none j pos) (mC .non) := PE.imp pe_non fun σ H Q h => tG_c (v := .non) (fun _ _ => by simp only [RD]) h
theorem se_str {x : Str} {j : Nat} : SE X W (.Constant (.str x) j pos) (mC (.str x)) := PE.imp pe_str fun σ H Q h => tG_c (v := .str x) (fun _ _ => by simp only [RD]) h
/-- a constant of the module -/
theorem se_glob {x : Str} {v : V} {d : D} {u : Value} (hg : Gl X x) (hm : X.mg x = some u) (r : RelV v u) (rd : ∀ ι H, RD X.K ι H d v) (hd : (x == ("__debug__" : Str)) = false := by decide) : SE X W (.Name x pos) (mC d) :=
  PE.imp (pe_glob hg hm r hd) fun σ H Q h => tG_c rd h
theorem se_gint {x : Str} {i : Int} (hg : Gl X x) (hm : ∃ t, X.mg x = some (.int i t)) (hd : (x == ("__debug__" : Str)) = false := by decide) : SE X W (.Name x pos) (mC (.int i)) := by
  obtain ⟨t, hm⟩ := hm
  exact se_glob (v := .int i) hg hm ⟨t, rfl⟩ (fun _ _ => by simp only [RD]) hd
theorem se_gstr {x : Str} {i : Str} (hg : Gl X x) (hm : ∃ t, X.mg x = some (.str i t)) (hd : (x == ("__debug__" : Str)) = false := by decide) : SE X W (.Name x pos) (mC (.str i)) := by
  obtain ⟨t, hm⟩ := hm
  exact se_glob (v := .str i) hg hm ⟨t, rfl⟩ (fun _ _ => by simp only [RD]) hd
end

/-! ### operators by values -/
/-- what is wanted of an operator's answer -/
def PV (K : PySem.W.Frag) (ι : List Addr) (H : Hp) (Q : VK) : Option (D × Sto) → Prop
  | none => False
  | some (d, S') => ∀ ι' v H', Ext K ι H ι' H' → RS K ι' H' S' → RD K ι' H' d v → Q v H'
abbrev DOp := D → D → Sto → Option (D × Sto)
abbrev DOps := List D → Sto → Option (D × Sto)
/-- the reading of a two-place operator on data -/
def rOp (K : PySem.W.Frag) (f : DOp) : R2 := fun a b H Q => ∃ ι S x y, RS K ι H S ∧ RD K ι H x a ∧ RD K ι H y b ∧ PV K ι H Q (f x y S)
def rOps (K : PySem.W.Frag) (f : DOps) : List V → Hp → VK → Prop := fun vs H Q => ∃ ι S xs, RS K ι H S ∧ RDs K ι H xs vs ∧ PV K ι H Q (f xs S)
theorem PV.of {K : PySem.W.Frag} {ι : List Addr} {H : Hp} {Q : VK} {W : WX} {σ : L2.St} {o : Option (D × Sto)} (h : PR K (rD K) W σ ι H Q (ofO o)) : PV K ι H Q o := by
  cases o with
  | none => exact h
  | some p => exact h
theorem PV.ret {K : PySem.W.Frag} {ι : List Addr} {H : Hp} {Q : VK} {d : D} {S : Sto} {v : V} (h : PV K ι H Q (some (d, S))) (rs : RS K ι H S) (r : RD K ι H d v) : Q v H := h ι v H .refl rs r

def mBin (f : DOp) (ma mb : EM) : EM := fun ρ S => (ma ρ S).bind fun x S1 => (mb ρ S1).bind fun y S2 => ofO (f x y S2)
def mUn (f : D → Sto → Option (D × Sto)) (ma : EM) : EM := fun ρ S => (ma ρ S).bind fun x S1 => ofO (f x S1)
section
variable {X : Cx} {W : WX} {pos : Pos} {a b : Expr} {ma mb : EM}
theorem bin_go {K : PySem.W.Frag} {f : DOp} {σ : L2.St} {H : Hp} {Q : VK} (h : tM K W (mBin f ma mb) σ H Q) : tOp (rOp K f) (tM K W ma) (tM K W mb) σ H Q := by
  obtain ⟨ι, ρ, S, re, rs, h⟩ := h
  refine ⟨ι, ρ, S, re, rs, PR.imp (fun v H1 hh => ?_) (PR.bind (rel := rD K) h)⟩
  obtain ⟨ι1, d, S1, x1, rs1, r1, h1⟩ := hh
  refine ⟨ι1, ρ, S1, re.mono x1, rs1, PR.imp (fun u H2 hh => ?_) (PR.bind (rel := rD K) h1)⟩
  obtain ⟨ι2, d2, S2, x2, rs2, r2, h2⟩ := hh
  exact ⟨ι2, S2, d, d2, rs2, RD.mono x2 r1, r2, PV.of h2⟩
theorem se_bin {op : Operator} {f : DOp} (ho : OpR X (binaryOp op) (rOp X.K f)) (ha : SE X W a ma) (hb : SE X W b mb) : SE X W (.BinOp a op b pos) (mBin f ma mb) :=
  PE.imp (pe_op ho ha hb) fun _ _ _ h => bin_go h
theorem se_cmp {op : CmpOp} {f : DOp} (ho : OpR X (compareOp op) (rOp X.K f)) (ha : SE X W a ma) (hb : SE X W b mb) (hm : behindInMarks op b = false) : SE X W (.Compare a [op] [b] pos) (mBin f ma mb) :=
  PE.imp (pe_cmpR ho ha hb hm) fun _ _ _ h => bin_go h
def rUn (K : PySem.W.Frag) (f : D → Sto → Option (D × Sto)) : V → Hp → VK → Prop := fun a H Q => ∃ ι S x, RS K ι H S ∧ RD K ι H x a ∧ PV K ι H Q (f x S)
theorem un_go {K : PySem.W.Frag} {f : D → Sto → Option (D × Sto)} {σ : L2.St} {H : Hp} {Q : VK} (h : tM K W (mUn f ma) σ H Q) : tUn (rUn K f) (tM K W ma) σ H Q := by
  obtain ⟨ι, ρ, S, re, rs, h⟩ := h
  refine ⟨ι, ρ, S, re, rs, PR.imp (fun v H1 hh => ?_) (PR.bind (rel := rD K) h)⟩
  obtain ⟨ι1, d, S1, x1, rs1, r1, h1⟩ := hh
  exact ⟨ι1, S1, d, rs1, r1, PV.of h1⟩
theorem se_un {op : UnaryOp} {f : D → Sto → Option (D × Sto)} (ho : UnR X (unaryOp op) (rUn X.K f)) (ha : SE X W a ma) : SE X W (.UnaryOp op a pos) (mUn f ma) :=
  PE.imp (pe_un ho ha) fun _ _ _ h => un_go h
end

/-! ### argument lists -/
def aNil : AM := fun _ S => .ok [] S
def aCons (m : EM) (r : AM) : AM := fun ρ S => (m ρ S).bind fun x S1 => (r ρ S1).bind fun xs S2 => .ok (x :: xs) S2
section
variable {X : Cx} {W : WX} {pos : Pos} {e : Expr} {es : List Expr} {m : EM} {ms : AM}
theorem sa_nil : SA X W [] aNil := PA.imp pa_nil fun σ H Q h => by
  obtain ⟨ι, ρ, S, re, rs, h⟩ := h
  exact h.ret rs RDs.nil
theorem sa_cons (he : SE X W e m) (hr : SA X W es ms) (hs : starEach (e :: es) X.env = (false, eval e X.env) :: starEach es X.env := by rfl) : SA X W (e :: es) (aCons m ms) := by
  refine PA.imp (pa_cons he hr hs) fun σ H Q h => ?_
  obtain ⟨ι, ρ, S, re, rs, h⟩ := h
  refine ⟨ι, ρ, S, re, rs, PR.imp (fun v H1 hh => ?_) (PR.bind (rel := rD X.K) h)⟩
  obtain ⟨ι1, d, S1, x1, rs1, r1, h1⟩ := hh
  refine ⟨ι1, ρ, S1, re.mono x1, rs1, PR.imp (fun u H2 hh => ?_) (PR.bind (rel := rDs X.K) h1)⟩
  obtain ⟨ι2, d2, S2, x2, rs2, r2, h2⟩ := hh
  exact h2.ret rs2 (.cons (RD.mono x2 r1) r2)

/-! ### displays -/
def alloc (c : Cell) (S : Sto) : D × Sto := (.ref S.length, S ++ [c])
def mTup (ms : AM) : EM := fun ρ S => (ms ρ S).bind fun xs S1 => if xs.length ≤ sizeLine then .ok (.tup xs) S1 else .stk
def mLst (ms : AM) : EM := fun ρ S => (ms ρ S).bind fun xs S1 => if xs.length ≤ sizeLine then .ok (.ref S1.length) (S1 ++ [.lst xs]) else .stk
/-- a new tuple, a new list -/
theorem new_tup {K : PySem.W.Frag} {ι : List Addr} {H : Hp} {Q : VK} {S : Sto} {xs : List D} {vs : List V} (rs : RS K ι H S) (r : RDs K ι H xs vs) (h : PV K ι H Q (some (.tup xs, S))) :
    ∀ p, H p = none → Q (.ref p) (upd H p (.tup vs)) := fun p hp => by
  refine h ι _ _ (.new hp) (rs.new hp) ?_
  simp only [RD]
  exact ⟨p, vs, rfl, .inl (.inl upd_same), RDs.mono (.new hp) r⟩
theorem new_lst {K : PySem.W.Frag} {ι : List Addr} {H : Hp} {Q : VK} {S : Sto} {xs : List D} {vs : List V} (rs : RS K ι H S) (r : RDs K ι H xs vs) (h : PV K ι H Q (some (.ref S.length, S ++ [.lst xs]))) :
    ∀ p, H p = none → Q (.ref p) (upd H p (.lst vs)) := fun p hp => by
  refine h (ι ++ [p]) _ _ (.push hp) (rs.push hp rfl ⟨vs, upd_same, RDs.mono (.push hp) r⟩) ?_
  simp only [RD]
  exact ⟨p, rfl, by rw [← rs.len]; simp⟩
theorem se_tup {x1 : Nat} (h : SA X W es ms) : SE X W (.Tuple es x1 pos) (mTup ms) := by
  refine PE.imp (pe_tup h) fun σ H Q h => ?_
  obtain ⟨ι, ρ, S, re, rs, h⟩ := h
  refine ⟨ι, ρ, S, re, rs, PR.imp (fun v H1 hh => ?_) (PR.bind (rel := rDs X.K) h)⟩
  obtain ⟨ι1, d, S1, x1, rs1, r1, h1⟩ := hh
  split at h1
  · rename_i hz
    exact ⟨by rw [r1.length]; exact hz, new_tup rs1 r1 (PV.of (o := some _) h1)⟩
  · exact h1.elim
theorem se_lst (h : SA X W es ms) : SE X W (.List es pos) (mLst ms) := by
  refine PE.imp (pe_lst h) fun σ H Q h => ?_
  obtain ⟨ι, ρ, S, re, rs, h⟩ := h
  refine ⟨ι, ρ, S, re, rs, PR.imp (fun v H1 hh => ?_) (PR.bind (rel := rDs X.K) h)⟩
  obtain ⟨ι1, d, S1, x1, rs1, r1, h1⟩ := hh
  split at h1
  · rename_i hz
    exact ⟨by rw [r1.length]; exact hz, new_lst rs1 r1 (PV.of (o := some _) h1)⟩
  · exact h1.elim
end
end DL

/-! the D-layer: tests and statements -/
namespace DL
open PySem L2

/-! ### sequences of the store -/
def seqAt (S : Sto) (n : Nat) : Option (List D) := match S[n]? with
  | some (.lst xs) => some xs
  | some (.fz xs) => some xs
  | _ => none
section
variable {K : PySem.W.Frag} {ι ι' : List Addr} {H H' : Hp} {S : Sto} {ρ : Ev} {σ : L2.St} {W : WX}
theorem RC.seqL {p : Addr} {xs : List D} {c : Cell} (hc : c = .lst xs ∨ c = .fz xs) (h : RC K ι H p c) : ∃ vs, SqL K H p vs ∧ RDs K ι H xs vs := by
  rcases hc with rfl | rfl
  · obtain ⟨vs, a, b⟩ := h; exact ⟨vs, .inl (.inl a), b⟩
  · obtain ⟨vs, a, b⟩ := h
    rcases a with ⟨o, a⟩ | a
    · exact ⟨vs, .inl (.inr ⟨o, a⟩), b⟩
    · exact ⟨vs, a H, b⟩
theorem RS.seq {n : Nat} {xs : List D} {v : V} (rs : RS K ι H S) (hn : seqAt S n = some xs) (hv : RD K ι H (.ref n) v) : ∃ p vs, v = .ref p ∧ ι[n]? = some p ∧ SqL K H p vs ∧ RDs K ι H xs vs := by
  simp only [RD] at hv
  obtain ⟨p, rfl, hp⟩ := hv
  unfold seqAt at hn
  split at hn
  · rename_i ys e
    cases hn
    obtain ⟨q, a, b⟩ := rs.at_ n _ e
    rw [hp] at a; cases a
    obtain ⟨vs, s, r⟩ := b.seqL (.inl rfl)
    exact ⟨p, vs, rfl, hp, s, r⟩
  · rename_i ys e
    cases hn
    obtain ⟨q, a, b⟩ := rs.at_ n _ e
    rw [hp] at a; cases a
    obtain ⟨vs, s, r⟩ := b.seqL (.inr rfl)
    exact ⟨p, vs, rfl, hp, s, r⟩
  · cases hn
theorem RS.lst {n : Nat} {xs : List D} {v : V} (rs : RS K ι H S) (hn : S[n]? = some (.lst xs)) (hv : RD K ι H (.ref n) v) : ∃ p vs, v = .ref p ∧ ι[n]? = some p ∧ H p = some (.lst vs) ∧ RDs K ι H xs vs := by
  simp only [RD] at hv
  obtain ⟨p, rfl, hp⟩ := hv
  obtain ⟨q, a, b⟩ := rs.at_ n _ hn
  rw [hp] at a; cases a
  obtain ⟨vs, s, r⟩ := b
  exact ⟨p, vs, rfl, hp, s, r⟩
theorem RS.dct {n : Nat} {xs : List (Key × D)} {v : V} (rs : RS K ι H S) (hn : S[n]? = some (.dct xs)) (hv : RD K ι H (.ref n) v) : ∃ p vs, v = .ref p ∧ ι[n]? = some p ∧ H p = some (.dK vs) ∧ RKs K ι H xs vs := by
  simp only [RD] at hv
  obtain ⟨p, rfl, hp⟩ := hv
  obtain ⟨q, a, b⟩ := rs.at_ n _ hn
  rw [hp] at a; cases a
  obtain ⟨vs, s, r⟩ := b
  exact ⟨p, vs, rfl, hp, s, r⟩
theorem RS.ins {n : Nat} {C : Addr} {xs : List (Str × D)} {v : V} (rs : RS K ι H S) (hn : S[n]? = some (.ins C xs)) (hv : RD K ι H (.ref n) v) : ∃ p dx vs, v = .ref p ∧ ι[n]? = some p ∧ H p = some (.ins C dx vs) ∧ RKs K ι H xs vs := by
  simp only [RD] at hv
  obtain ⟨p, rfl, hp⟩ := hv
  obtain ⟨q, a, b⟩ := rs.at_ n _ hn
  rw [hp] at a; cases a
  obtain ⟨dx, vs, s, r⟩ := b
  exact ⟨p, dx, vs, rfl, hp, s, r⟩
theorem RKs.length {κ : Type} : ∀ {ds : List (κ × D)} {vs : List (κ × V)}, RKs K ι H ds vs → vs.length = ds.length
  | [], vs, h => by simp only [RKs] at h; subst h; rfl
  | (k, d) :: ds, vs, h => by
    simp only [RKs] at h
    obtain ⟨v, r, rfl, _, t⟩ := h
    simp [RKs.length t]
theorem RKs.isEmpty {κ : Type} {ds : List (κ × D)} {vs : List (κ × V)} (h : RKs K ι H ds vs) : vs.isEmpty = ds.isEmpty := by
  cases ds with
  | nil => simp only [RKs] at h; subst h; rfl
  | cons d ds => obtain ⟨k, d⟩ := d; simp only [RKs] at h; obtain ⟨v, r, rfl, _⟩ := h; rfl
end

/-! ### truth -/
def dTru (d : D) (S : Sto) : Option Bool := match d with
  | .non => some false
  | .bl b => some b
  | .int i => some (i != 0)
  | .str x => if x.length ≤ sizeLine then some ((x.length : Int) != 0) else none
  | .tup xs => some (!xs.isEmpty)
  | .ref n => match S[n]? with
    | some (.lst xs) => some (!xs.isEmpty)
    | some (.fz xs) => some (!xs.isEmpty)
    | some (.dct kvs) => some (!kvs.isEmpty)
    | _ => none
  | .raw _ => none
def mTru (m : EM) : TM := fun ρ S => (m ρ S).bind fun d S1 => match dTru d S1 with
  | some b => .ok b S1
  | none => .stk
/-- the value must be a bool -/
def mTest (m : EM) : TM := fun ρ S => (m ρ S).bind fun d S1 => match d with
  | .bl b => .ok b S1
  | _ => .stk
section
variable {X : Cx} {W : WX} {pos : Pos} {a b c e : Expr} {m ma mb mc : EM} {t ta tb : TM}
abbrev ST (X : Cx) (W : WX) (e : Expr) (m : TM) : Prop := PT X e (tMT X.K W m)
abbrev SW (X : Cx) (W : WX) (e : Expr) (m : TM) : Prop := PW X e (tMT X.K W m)
theorem dTru_ok {K : PySem.W.Frag} {ι : List Addr} {H : Hp} {S : Sto} {d : D} {v : V} {k : Bool} (rs : RS K ι H S) (r : RD K ι H d v) (h : dTru d S = some k) : TruV K v H k := by
  cases d with
  | non => simp only [RD] at r; subst r; simp only [dTru, Option.some.injEq] at h; exact h.symm
  | bl b => simp only [RD] at r; subst r; simp only [dTru, Option.some.injEq] at h; exact h.symm
  | int i => simp only [RD] at r; subst r; simp only [dTru, Option.some.injEq] at h; exact h.symm
  | str x =>
    simp only [RD] at r; subst r
    simp only [dTru] at h
    split at h
    · rename_i hz
      exact ⟨hz, (Option.some.inj h).symm⟩
    · cases h
  | tup xs =>
    simp only [RD] at r
    obtain ⟨p, vs, rfl, q, t⟩ := r
    simp only [dTru, Option.some.injEq] at h
    exact .inr (.inl ⟨vs, q, by rw [t.isEmpty]; exact h.symm⟩)
  | ref n =>
    simp only [dTru] at h
    split at h
    · rename_i xs e
      obtain ⟨p, vs, rfl, _, q, t⟩ := rs.lst e r
      exact .inl ⟨vs, .inl (.inl q), by rw [t.isEmpty]; exact (Option.some.inj h).symm⟩
    · rename_i xs e
      obtain ⟨p, vs, rfl, _, q, t⟩ := rs.seq (xs := xs) (by unfold seqAt; rw [e]) r
      exact .inl ⟨vs, q, by rw [t.isEmpty]; exact (Option.some.inj h).symm⟩
    · rename_i xs e
      obtain ⟨p, vs, rfl, _, q, t⟩ := rs.dct e r
      exact .inr (.inr ⟨vs, q, by rw [t.isEmpty]; exact (Option.some.inj h).symm⟩)
    · cases h
  | raw v => simp only [dTru] at h; cases h
theorem tru_go {K : PySem.W.Frag} {σ : L2.St} {H : Hp} {Q : Bool → Hp → Prop} (h : tMT K W (mTru m) σ H Q) : tM K W m σ H fun v H1 => ∃ k, TruV K v H1 k ∧ Q k H1 := by
  obtain ⟨ι, ρ, S, re, rs, h⟩ := h
  refine ⟨ι, ρ, S, re, rs, PR.imp (fun v H1 hh => ?_) (PR.bind (rel := rD K) h)⟩
  obtain ⟨ι1, d, S1, x1, rs1, r1, h1⟩ := hh
  cases hk : dTru d S1 with
  | none => simp only [hk] at h1; exact h1.elim
  | some k =>
    simp only [hk] at h1
    exact ⟨k, dTru_ok rs1 r1 hk, h1.ret rs1 rfl⟩
theorem st_tru (he : SE X W e m) (hp : ∀ whole, isTrue e X.env whole = (do let v ← whole; standAt e.pos; holding [v] (truthy v)) := by intro _; rfl) : ST X W e (mTru m) :=
  PT.imp (pt_truth he hp) fun _ _ _ h => tru_go h
theorem test_go {K : PySem.W.Frag} {σ : L2.St} {H : Hp} {Q : Bool → Hp → Prop} (h : tMT K W (mTest m) σ H Q) : tM K W m σ H fun v H1 => ∃ k, v = .bl k ∧ Q k H1 := by
  obtain ⟨ι, ρ, S, re, rs, h⟩ := h
  refine ⟨ι, ρ, S, re, rs, PR.imp (fun v H1 hh => ?_) (PR.bind (rel := rD K) h)⟩
  obtain ⟨ι1, d, S1, x1, rs1, r1, h1⟩ := hh
  split at h1
  · rename_i k
    simp only [RD] at r1
    exact ⟨k, r1, h1.ret rs1 rfl⟩
  · exact h1.elim
theorem st_cmp {op : CmpOp} {f : DOp} (ho : OpR X (compareOp op) (rOp X.K f)) (ha : SE X W a ma) (hb : SE X W b mb) (hm : behindInMarks op b = false) : ST X W (.Compare a [op] [b] pos) (mTest (mBin f ma mb)) :=
  PT.imp (pt_cmpR ho ha hb hm) fun σ H Q h => bin_go (PE_test h)
  where PE_test {K : PySem.W.Frag} {σ : L2.St} {H : Hp} {Q : Bool → Hp → Prop} {m : EM} (h : tMT K W (mTest m) σ H Q) : tM K W m σ H fun v H1 => ∃ k, v = .bl k ∧ Q k H1 := test_go h
def tAnd' (a b : TM) : TM := fun ρ S => (a ρ S).bind fun k S1 => if k = true then b ρ S1 else .ok false S1
def tOr' (a b : TM) : TM := fun ρ S => (a ρ S).bind fun k S1 => if k = true then .ok true S1 else b ρ S1
def tNot' (a : TM) : TM := fun ρ S => (a ρ S).bind fun k S1 => .ok (!k) S1
theorem sw_and1 (ha : ST X W a ta) : SW X W (.BoolOp .And [a] pos) ta := pw_and1 ha
theorem sw_or1 (ha : ST X W a ta) : SW X W (.BoolOp .Or [a] pos) ta := pw_or1 ha
theorem PW.imp {e : Expr} {t t' : TT} (h : PW X e t) (q : ∀ σ H Q, t' σ H Q → t σ H Q) : PW X e t' := ⟨fun wh pins s σ H Q I w => h.run wh pins s σ H Q I (q _ _ _ w)⟩
theorem sw_and {rest : List Expr} (ha : ST X W a ta) (hb : SW X W (.BoolOp .And (b :: rest) pos) tb) : SW X W (.BoolOp .And (a :: b :: rest) pos) (tAnd' ta tb) := by
  refine PW.imp (pw_and ha hb) fun σ H Q h => ?_
  obtain ⟨ι, ρ, S, re, rs, h⟩ := h
  refine ⟨ι, ρ, S, re, rs, PR.imp (fun v H1 hh => ?_) (PR.bind (rel := rB) h)⟩
  obtain ⟨ι1, d, S1, x1, rs1, r1, h1⟩ := hh
  cases r1
  cases v with
  | true => exact iteT ⟨ι1, ρ, S1, re.mono x1, rs1, h1⟩
  | false => exact iteF (h1.ret rs1 rfl)
theorem sw_or {rest : List Expr} (ha : ST X W a ta) (hb : SW X W (.BoolOp .Or (b :: rest) pos) tb) : SW X W (.BoolOp .Or (a :: b :: rest) pos) (tOr' ta tb) := by
  refine PW.imp (pw_or ha hb) fun σ H Q h => ?_
  obtain ⟨ι, ρ, S, re, rs, h⟩ := h
  refine ⟨ι, ρ, S, re, rs, PR.imp (fun v H1 hh => ?_) (PR.bind (rel := rB) h)⟩
  obtain ⟨ι1, d, S1, x1, rs1, r1, h1⟩ := hh
  cases r1
  cases v with
  | true => exact iteT (h1.ret rs1 rfl)
  | false => exact iteF ⟨ι1, ρ, S1, re.mono x1, rs1, h1⟩
theorem st_not (ha : ST X W a ta) : ST X W (.UnaryOp .Not a pos) (tNot' ta) := by
  refine PT.imp (pt_not ha) fun σ H Q h => ?_
  obtain ⟨ι, ρ, S, re, rs, h⟩ := h
  refine ⟨ι, ρ, S, re, rs, PR.imp (fun v H1 hh => ?_) (PR.bind (rel := rB) h)⟩
  obtain ⟨ι1, d, S1, x1, rs1, r1, h1⟩ := hh
  cases r1
  exact h1.ret rs1 rfl
/-! values -/
def mAnd (ma mb : EM) : EM := fun ρ S => (ma ρ S).bind fun d S1 => match dTru d S1 with
  | none => .stk
  | some k => if k = true then mb ρ S1 else .ok d S1
def mOr (ma mb : EM) : EM := fun ρ S => (ma ρ S).bind fun d S1 => match dTru d S1 with
  | none => .stk
  | some k => if k = true then .ok d S1 else mb ρ S1
def mNot (ma : EM) : EM := fun ρ S => (ma ρ S).bind fun d S1 => match dTru d S1 with
  | none => .stk
  | some k => .ok (.bl (!k)) S1
theorem se_one {op : BoolOp} (h : SE X W a ma) : SE X W (.BoolOp op [a] pos) ma := pe_one h
theorem se_and {rest : List Expr} (ha : SE X W a ma) (hb : SE X W (.BoolOp .And (b :: rest) pos) mb) : SE X W (.BoolOp .And (a :: b :: rest) pos) (mAnd ma mb) := by
  refine PE.imp (pe_andT ha hb) fun σ H Q h => ?_
  obtain ⟨ι, ρ, S, re, rs, h⟩ := h
  refine ⟨ι, ρ, S, re, rs, PR.imp (fun v H1 hh => ?_) (PR.bind (rel := rD X.K) h)⟩
  obtain ⟨ι1, d, S1, x1, rs1, r1, h1⟩ := hh
  cases hk : dTru d S1 with
  | none => simp only [hk] at h1; exact h1.elim
  | some k =>
    simp only [hk] at h1
    refine ⟨k, dTru_ok rs1 r1 hk, ?_⟩
    cases k with
    | true => exact iteT ⟨ι1, ρ, S1, re.mono x1, rs1, h1⟩
    | false => exact iteF (h1.ret rs1 r1)
theorem se_or {rest : List Expr} (ha : SE X W a ma) (hb : SE X W (.BoolOp .Or (b :: rest) pos) mb) : SE X W (.BoolOp .Or (a :: b :: rest) pos) (mOr ma mb) := by
  refine PE.imp (pe_orT ha hb) fun σ H Q h => ?_
  obtain ⟨ι, ρ, S, re, rs, h⟩ := h
  refine ⟨ι, ρ, S, re, rs, PR.imp (fun v H1 hh => ?_) (PR.bind (rel := rD X.K) h)⟩
  obtain ⟨ι1, d, S1, x1, rs1, r1, h1⟩ := hh
  cases hk : dTru d S1 with
  | none => simp only [hk] at h1; exact h1.elim
  | some k =>
    simp only [hk] at h1
    refine ⟨k, dTru_ok rs1 r1 hk, ?_⟩
    cases k with
    | true => exact iteT (h1.ret rs1 r1)
    | false => exact iteF ⟨ι1, ρ, S1, re.mono x1, rs1, h1⟩
theorem se_not (ha : SE X W a ma) : SE X W (.UnaryOp .Not a pos) (mNot ma) := by
  refine PE.imp (pe_notT ha) fun σ H Q h => ?_
  obtain ⟨ι, ρ, S, re, rs, h⟩ := h
  refine ⟨ι, ρ, S, re, rs, PR.imp (fun v H1 hh => ?_) (PR.bind (rel := rD X.K) h)⟩
  obtain ⟨ι1, d, S1, x1, rs1, r1, h1⟩ := hh
  cases hk : dTru d S1 with
  | none => simp only [hk] at h1; exact h1.elim
  | some k =>
    simp only [hk] at h1
    exact ⟨k, dTru_ok rs1 r1 hk, h1.ret rs1 (by simp only [RD])⟩
def mIf (t : TM) (ma mb : EM) : EM := fun ρ S => (t ρ S).bind fun k S1 => if k = true then ma ρ S1 else mb ρ S1
theorem se_if (hc : ST X W c t) (ha : SE X W a ma) (hb : SE X W b mb) : SE X W (.IfExp c a b pos) (mIf t ma mb) := by
  refine PE.imp (pe_ifExp hc ha hb) fun σ H Q h => ?_
  obtain ⟨ι, ρ, S, re, rs, h⟩ := h
  refine ⟨ι, ρ, S, re, rs, PR.imp (fun v H1 hh => ?_) (PR.bind (rel := rB) h)⟩
  obtain ⟨ι1, d, S1, x1, rs1, r1, h1⟩ := hh
  cases r1
  cases v with
  | true => exact iteT ⟨ι1, ρ, S1, re.mono x1, rs1, h1⟩
  | false => exact iteF ⟨ι1, ρ, S1, re.mono x1, rs1, h1⟩
/-- a op b op' c -/
def mChain (f g : DOp) (ma mb mc : EM) : EM := fun ρ S => (ma ρ S).bind fun x S1 => (mb ρ S1).bind fun y S2 => (ofO (f x y S2)).bind fun z S3 => match z with
  | .bl true => (mc ρ S3).bind fun w S4 => ofO (g y w S4)
  | .bl false => .ok (.bl false) S3
  | _ => .stk
theorem PV.mono {K : PySem.W.Frag} {ι ι' : List Addr} {H H' : Hp} {Q : VK} (x : Ext K ι H ι' H') {o : Option (D × Sto)} (h : PV K ι H Q o) : PV K ι' H' Q o := by
  cases o with
  | none => exact h
  | some p => exact fun ι2 v H2 x2 => h ι2 v H2 (x.trans x2)
theorem PR.bindO {α' β' : Type} {K : PySem.W.Frag} {ι : List Addr} {H : Hp} {σ : L2.St} {rel' : Rel α' β'} {Q : β' → Hp → Prop} {o : Option (D × Sto)} {k : D → Sto → R α'} (h : PR K rel' W σ ι H Q ((ofO o).bind k)) :
    PV K ι H (fun v H1 => ∃ ι1 d S1, Ext K ι H ι1 H1 ∧ RS K ι1 H1 S1 ∧ RD K ι1 H1 d v ∧ PR K rel' W σ ι1 H1 Q (k d S1)) o := by
  cases o with
  | none => exact h
  | some p => exact fun ι2 v H2 x2 a b => ⟨ι2, p.1, p.2, x2, a, b, PR.mono x2 h⟩
theorem chain_go {K : PySem.W.Frag} {f g : DOp} {σ : L2.St} {H : Hp} {Q : VK} (h : tM K W (mChain f g ma mb mc) σ H Q) : tChain (rOp K f) (rOp K g) (tM K W ma) (tM K W mb) (tM K W mc) σ H Q := by
  obtain ⟨ι, ρ, S, re, rs, h⟩ := h
  refine ⟨ι, ρ, S, re, rs, PR.imp (fun v H1 hh => ?_) (PR.bind (rel := rD K) h)⟩
  obtain ⟨ι1, d, S1, x1, rs1, r1, h1⟩ := hh
  refine ⟨ι1, ρ, S1, re.mono x1, rs1, PR.imp (fun u H2 hh => ?_) (PR.bind (rel := rD K) h1)⟩
  obtain ⟨ι2, d2, S2, x2, rs2, r2, h2⟩ := hh
  have h2' := PR.bindO h2
  refine ⟨ι2, S2, d, d2, rs2, RD.mono x2 r1, r2, ?_⟩
  cases hf : f d d2 S2 with
  | none => rw [hf] at h2'; exact h2'
  | some p =>
    rw [hf] at h2'
    refine fun ι3 v3 H3 x3 rs3 r3 => ?_
    obtain ⟨ι4, d4, S4, x4, rs4, r4, h4⟩ := h2' ι3 v3 H3 x3 rs3 r3
    split at h4
    · simp only [RD] at r4
      refine ⟨true, r4, iteT ⟨ι4, ρ, S4, (re.mono x1).mono (x2.trans x4), rs4, PR.imp (fun u H2 hh => ?_) (PR.bind (rel := rD K) h4)⟩⟩
      obtain ⟨ι5, d5, S5, x5, rs5, r5, h5⟩ := hh
      exact ⟨ι5, S5, d2, d5, rs5, RD.mono (x4.trans x5) r2, r5, PV.of h5⟩
    · simp only [RD] at r4
      exact ⟨false, r4, iteF (h4.ret rs4 (by simp only [RD]))⟩
    · exact h4.elim
theorem se_chain {op op' : CmpOp} {f g : DOp} (ho : OpR X (compareOp op) (rOp X.K f)) (ho' : OpR X (compareOp op') (rOp X.K g)) (ha : SE X W a ma) (hb : SE X W b mb) (hc : SE X W c mc)
    (hm : lastMarks [op, op'] [b, c] = false := by with_unfolding_all rfl) : SE X W (.Compare a [op, op'] [b, c] pos) (mChain f g ma mb mc) :=
  PE.imp (pe_chain ho ho' ha hb hc hm) fun _ _ _ h => chain_go h
theorem st_chain {op op' : CmpOp} {f g : DOp} (ho : OpR X (compareOp op) (rOp X.K f)) (ho' : OpR X (compareOp op') (rOp X.K g)) (ha : SE X W a ma) (hb : SE X W b mb) (hc : SE X W c mc)
    (hm : lastMarks [op, op'] [b, c] = false := by with_unfolding_all rfl) : ST X W (.Compare a [op, op'] [b, c] pos) (mTest (mChain f g ma mb mc)) :=
  PT.imp (pt_chain ho ho' ha hb hc hm) fun _ _ _ h => chain_go (test_go h)
end

/-! ### statements -/
inductive SR where
  | stk | nx (ρ : Ev) (S : Sto) | rt (d : D) (S : Sto) | bk (ρ : Ev) (S : Sto) | ct (ρ : Ev) (S : Sto) | ex (e : Exn) (ρ : Ev) (S : Sto)
abbrev SM := Ev → Sto → SR
/-- an expression's result, then a statement's -/
def R.bindS {α : Type} (r : R α) (ρ : Ev) (f : α → Sto → SR) : SR := match r with
  | .stk => .stk
  | .ok a S => f a S
  | .ex e S => .ex e ρ S
@[simp] theorem bindS_ok {α : Type} (a : α) (S : Sto) (ρ : Ev) (f : α → Sto → SR) : (R.ok a S).bindS ρ f = f a S := rfl
@[simp] theorem bindS_stk {α : Type} (ρ : Ev) (f : α → Sto → SR) : (R.stk : R α).bindS ρ f = .stk := rfl
@[simp] theorem bindS_ex {α : Type} (e : Exn) (S : Sto) (ρ : Ev) (f : α → Sto → SR) : (R.ex e S : R α).bindS ρ f = .ex e ρ S := rfl
/-- what is wanted of a statement's result -/
def PQ (K : PySem.W.Frag) (W : WX) (ι : List Addr) (H : Hp) (D : Ends) : SR → Prop
  | .stk => False
  | .nx ρ' S' => ∀ ι' σ' H', Ext K ι H ι' H' → RS K ι' H' S' → RE K ι' H' ρ' σ' → D.nx σ' H'
  | .rt d S' => ∀ ι' v H', Ext K ι H ι' H' → RS K ι' H' S' → RD K ι' H' d v → D.rt v H'
  | .bk ρ' S' => ∀ ι' σ' H', Ext K ι H ι' H' → RS K ι' H' S' → RE K ι' H' ρ' σ' → D.bk σ' H'
  | .ct ρ' S' => ∀ ι' σ' H', Ext K ι H ι' H' → RS K ι' H' S' → RE K ι' H' ρ' σ' → D.ct σ' H'
  | .ex e ρ' S' => ∀ ι' σ' H' cls dd, Ext K ι H ι' H' → RS K ι' H' S' → RE K ι' H' ρ' σ' → RX K ι' H' e cls dd → W cls dd σ' H'
def tSM (K : PySem.W.Frag) (W : WX) (m : SM) : TS := fun D σ H => ∃ ι ρ S, RE K ι H ρ σ ∧ RS K ι H S ∧ PQ K W ι H D (m ρ S)
abbrev SS (X : Cx) (W : WX) (st : Stmt) (m : SM) : Prop := PS X st (tSM X.K W m)
abbrev SSs (X : Cx) (W : WX) (st : List Stmt) (m : SM) : Prop := PSs X st (tSM X.K W m)
section
variable {K : PySem.W.Frag} {ι ι' : List Addr} {H H' : Hp} {S : Sto} {ρ : Ev} {σ : L2.St} {W : WX} {D : Ends}
theorem PQ.mono (x : Ext K ι H ι' H') {r : SR} (h : PQ K W ι H D r) : PQ K W ι' H' D r := by
  cases r with
  | stk => exact h
  | nx ρ' S' => exact fun ι2 v H2 x2 => h ι2 v H2 (x.trans x2)
  | rt d S' => exact fun ι2 v H2 x2 => h ι2 v H2 (x.trans x2)
  | bk ρ' S' => exact fun ι2 v H2 x2 => h ι2 v H2 (x.trans x2)
  | ct ρ' S' => exact fun ι2 v H2 x2 => h ι2 v H2 (x.trans x2)
  | ex e ρ' S' => exact fun ι2 v H2 cls dd x2 => h ι2 v H2 cls dd (x.trans x2)
theorem PR.bindS {α β : Type} {rel : Rel α β} {r : R α} {k : α → Sto → SR} (re : RE K ι H ρ σ) (h : PQ K W ι H D (r.bindS ρ k)) :
    PR K rel W σ ι H (fun v H1 => ∃ ι1 d S1, Ext K ι H ι1 H1 ∧ RS K ι1 H1 S1 ∧ rel ι1 H1 d v ∧ PQ K W ι1 H1 D (k d S1)) r := by
  cases r with
  | stk => exact h
  | ok d S' => exact fun ι2 v H2 x2 a b => ⟨ι2, d, S', x2, a, b, PQ.mono x2 h⟩
  | ex e S' => exact fun ι2 H2 cls dd x2 a b => h ι2 σ H2 cls dd x2 a (re.mono x2) b
theorem PQ.next {ρ' : Ev} {σ' : L2.St} (h : PQ K W ι H D (.nx ρ' S)) (rs : RS K ι H S) (re : RE K ι H ρ' σ') : D.nx σ' H := h ι σ' H .refl rs re
end
def sNext : SM := fun ρ S => .nx ρ S
def SR.seq (r : SR) (u : SM) : SR := match r with
  | .nx ρ S => u ρ S
  | r => r
def sSeq (t u : SM) : SM := fun ρ S => (t ρ S).seq u
def sRet (m : EM) : SM := fun ρ S => (m ρ S).bindS ρ fun d S1 => .rt d S1
def sRetN : SM := fun _ S => .rt .non S
def sDrop (m : EM) : SM := fun ρ S => (m ρ S).bindS ρ fun _ S1 => .nx ρ S1
def sIf (t : TM) (a b : SM) : SM := fun ρ S => (t ρ S).bindS ρ fun k S1 => if k = true then a ρ S1 else b ρ S1
def sSet (i : Nat) (m : EM) : SM := fun ρ S => (m ρ S).bindS ρ fun d S1 => .nx (ρ.set i (some d)) S1
def sBreak : SM := fun ρ S => .bk ρ S
def sCont : SM := fun ρ S => .ct ρ S
theorem RE.put {K : PySem.W.Frag} {ι : List Addr} {H : Hp} {ρ : Ev} {σ : L2.St} {i : Nat} {d : D} {v : V} (r : RE K ι H ρ σ) (h : RD K ι H d v) : RE K ι H (ρ.set i (some d)) (σ.set i (some v)) := by
  refine ⟨by simp [r.len], fun j d' e => ?_⟩
  by_cases hj : j = i
  · subst hj
    have hl : j < ρ.length := by
      have := (List.getElem?_eq_some_iff.mp e).1
      simpa using this
    rw [List.getElem?_set_self hl] at e
    cases e
    exact ⟨v, by rw [List.getElem?_set_self (by rw [← r.len]; exact hl)], h⟩
  · rw [List.getElem?_set_ne (Ne.symm hj)] at e
    obtain ⟨u, a, b⟩ := r.at_ j d' e
    exact ⟨u, by rw [List.getElem?_set_ne (Ne.symm hj)]; exact a, b⟩
section
variable {X : Cx} {W : WX} {st : Stmt} {rest : List Stmt} {e : Expr} {pos : Pos} {m : EM} {t u : SM} {c : TM}
theorem sss_nil : SSs X W [] sNext := PSs.imp pss_nil fun D σ H h => by
  obtain ⟨ι, ρ, S, re, rs, h⟩ := h
  exact h.next rs re
theorem seq_go {K : PySem.W.Frag} {D : Ends} {σ : L2.St} {H : Hp} (h : tSM K W (sSeq t u) D σ H) : tSM K W t { D with nx := tSM K W u D } σ H := by
  obtain ⟨ι, ρ, S, re, rs, h⟩ := h
  refine ⟨ι, ρ, S, re, rs, ?_⟩
  unfold sSeq at h
  cases ht : t ρ S with
  | stk => rw [ht] at h; exact h
  | nx ρ' S' =>
    rw [ht] at h
    exact fun ι2 σ2 H2 x2 rs2 re2 => ⟨ι2, ρ', S', re2, rs2, PQ.mono x2 h⟩
  | rt d S' => rw [ht] at h; exact h
  | bk ρ' S' => rw [ht] at h; exact h
  | ct ρ' S' => rw [ht] at h; exact h
  | ex e ρ' S' => rw [ht] at h; exact h
theorem sss_cons (h1 : SS X W st t) (h2 : SSs X W rest u) : SSs X W (st :: rest) (sSeq t u) := PSs.imp (pss_cons h1 h2) fun D σ H h => seq_go h
theorem sss_one (h1 : SS X W st t) : SSs X W [st] t := pss_one h1
theorem ss_pass : SS X W (.Pass pos) sNext := PS.imp ps_pass fun D σ H h => by
  obtain ⟨ι, ρ, S, re, rs, h⟩ := h
  exact h.next rs re
theorem ss_break : SS X W (.Break pos) sBreak := PS.imp ps_break fun D σ H h => by
  obtain ⟨ι, ρ, S, re, rs, h⟩ := h
  exact h ι σ H .refl rs re
theorem ss_continue : SS X W (.Continue pos) sCont := PS.imp ps_continue fun D σ H h => by
  obtain ⟨ι, ρ, S, re, rs, h⟩ := h
  exact h ι σ H .refl rs re
theorem ss_expr (he : SE X W e m) (hs : swapsWith e none pos.line X.env = pure false := by rfl) : SS X W (.Expr e pos) (sDrop m) := by
  refine PS.imp (ps_expr he hs) fun D σ H h => ?_
  obtain ⟨ι, ρ, S, re, rs, h⟩ := h
  refine ⟨ι, ρ, S, re, rs, PR.imp (fun v H1 hh => ?_) (PR.bindS (rel := rD X.K) re h)⟩
  obtain ⟨ι1, d, S1, x1, rs1, r1, h1⟩ := hh
  exact h1.next rs1 (re.mono x1)
theorem ss_ret (he : SE X W e m) : SS X W (.Return (some e) pos) (sRet m) := by
  refine PS.imp (ps_ret he) fun D σ H h => ?_
  obtain ⟨ι, ρ, S, re, rs, h⟩ := h
  refine ⟨ι, ρ, S, re, rs, PR.imp (fun v H1 hh => ?_) (PR.bindS (rel := rD X.K) re h)⟩
  obtain ⟨ι1, d, S1, x1, rs1, r1, h1⟩ := hh
  exact h1 ι1 v H1 .refl rs1 r1
theorem ss_retN : SS X W (.Return none pos) sRetN := PS.imp ps_retN fun D σ H h => by
  obtain ⟨ι, ρ, S, re, rs, h⟩ := h
  exact h ι .non H .refl rs (by simp only [RD])
theorem ss_if {e : Expr} {a b : List Stmt} (hc : ST X W e c) (ha : SSs X W a t) (hb : SSs X W b u) : SS X W (.If e a b pos) (sIf c t u) := by
  refine PS.imp (ps_if hc ha hb) fun D σ H h => ?_
  obtain ⟨ι, ρ, S, re, rs, h⟩ := h
  refine ⟨ι, ρ, S, re, rs, PR.imp (fun v H1 hh => ?_) (PR.bindS (rel := rB) re h)⟩
  obtain ⟨ι1, d, S1, x1, rs1, r1, h1⟩ := hh
  cases r1
  cases v with
  | true => exact iteT ⟨ι1, ρ, S1, re.mono x1, rs1, h1⟩
  | false => exact iteF ⟨ι1, ρ, S1, re.mono x1, rs1, h1⟩
theorem ss_set (i : Nat) {x : Str} {pos' : Pos} (hN : X.N.Nodup) (he : SE X W e m) (hi : X.N[i]? = some x := by rfl) (hx : Loc X.env.scope x := by first | exact Or.inl rfl | exact Or.inr rfl) (hs : swapsWith e (some (.Name x pos')) pos.line X.env = pure false := by rfl)
    (hf : X.fn x = true ∨ X.env.scope.names.lookup x = some .local := by first | exact .inl rfl | exact .inr rfl | assumption) : SS X W (.Assign [.Name x pos'] e pos) (sSet i m) := by
  refine PS.imp (ps_set hN hi hx he hs hf) fun D σ H h => ?_
  obtain ⟨ι, ρ, S, re, rs, h⟩ := h
  refine ⟨ι, ρ, S, re, rs, PR.imp (fun v H1 hh => ?_) (PR.bindS (rel := rD X.K) re h)⟩
  obtain ⟨ι1, d, S1, x1, rs1, r1, h1⟩ := hh
  exact h1.next rs1 ((re.mono x1).put r1)
end

/-! ### targets -/
inductive Tg where
  | nm (i : Nat) | tp (ts : List Tg)
mutual
def Tg.put : Tg → D → Ev → Option Ev
  | .nm i, d, ρ => some (ρ.set i (some d))
  | .tp ts, .tup xs, ρ => Tg.puts ts xs ρ
  | .tp _, _, _ => none
def Tg.puts : List Tg → List D → Ev → Option Ev
  | [], [], ρ => some ρ
  | t :: ts, d :: ds, ρ => (t.put d ρ).bind fun ρ' => Tg.puts ts ds ρ'
  | _, _, _ => none
end
mutual
def Tg.slots : Tg → List Nat
  | .nm i => [i]
  | .tp ts => Tg.slotss ts
def Tg.slotss : List Tg → List Nat
  | [] => []
  | t :: ts => t.slots ++ Tg.slotss ts
end
mutual
def Tg.g (K : PySem.W.Frag) : Tg → TG
  | .nm i => gName i
  | .tp ts => gTup K ts.length (Tg.gs K ts)
def Tg.gs (K : PySem.W.Frag) : List Tg → TGs
  | [] => gNil
  | t :: ts => gCons (t.g K) (Tg.gs K ts)
end
section
variable {K : PySem.W.Frag} {ι : List Addr} {H : Hp}
theorem Tg.puts_len : ∀ {ts : List Tg} {xs : List D} {ρ ρ' : Ev}, Tg.puts ts xs ρ = some ρ' → xs.length = ts.length
  | [], [], _, _, _ => rfl
  | t :: ts, d :: ds, ρ, ρ', h => by
    simp only [Tg.puts] at h
    cases e : t.put d ρ with
    | none => rw [e] at h; cases h
    | some ρ1 => rw [e] at h; rw [List.length_cons, List.length_cons, Tg.puts_len (ρ := ρ1) (ρ' := ρ') h]
  | [], _ :: _, _, _, h => by simp only [Tg.puts] at h; cases h
  | _ :: _, [], _, _, h => by simp only [Tg.puts] at h; cases h
mutual
theorem Tg.g_of : ∀ (t : Tg) {d : D} {v : V} {ρ ρ' : Ev} {σ : L2.St} {Q : L2.St → Hp → Prop}, RE K ι H ρ σ → RD K ι H d v → t.put d ρ = some ρ' →
    (∀ σ', RE K ι H ρ' σ' → (∀ i, i ∉ t.slots → σ'[i]? = σ[i]?) → Q σ' H) → t.g K v σ H Q
  | .nm i, d, v, ρ, ρ', σ, Q, re, r, e, q => by
    simp only [Tg.put, Option.some.injEq] at e
    subst e
    exact q _ (re.put r) fun j hj => List.getElem?_set_ne (fun z => hj (by simp only [Tg.slots, List.mem_singleton]; exact z.symm))
  | .tp ts, d, v, ρ, ρ', σ, Q, re, r, e, q => by
    cases d with
    | tup xs =>
      simp only [Tg.put] at e
      simp only [RD] at r
      obtain ⟨p, vs, rfl, sq, rr⟩ := r
      simp only [Tg.g]
      refine ⟨p, vs, rfl, sq, by rw [rr.length]; exact Tg.puts_len e, Tg.gs_of ts re rr e fun σ' h1 h2 => q σ' h1 fun i hi => h2 i (by simpa only [Tg.slots] using hi)⟩
    | _ => simp only [Tg.put] at e; cases e
theorem Tg.gs_of : ∀ (ts : List Tg) {ds : List D} {vs : List V} {ρ ρ' : Ev} {σ : L2.St} {Q : L2.St → Hp → Prop}, RE K ι H ρ σ → RDs K ι H ds vs → Tg.puts ts ds ρ = some ρ' →
    (∀ σ', RE K ι H ρ' σ' → (∀ i, i ∉ Tg.slotss ts → σ'[i]? = σ[i]?) → Q σ' H) → Tg.gs K ts vs σ H Q
  | [], ds, vs, ρ, ρ', σ, Q, re, r, e, q => by
    cases ds with
    | nil =>
      simp only [Tg.puts, Option.some.injEq] at e
      simp only [RDs] at r
      subst e; subst r
      simp only [Tg.gs]
      exact ⟨rfl, q σ re fun _ _ => rfl⟩
    | cons d ds => simp only [Tg.puts] at e; cases e
  | t :: ts, ds, vs, ρ, ρ', σ, Q, re, r, e, q => by
    cases ds with
    | nil => simp only [Tg.puts] at e; cases e
    | cons d ds =>
      simp only [Tg.puts] at e
      simp only [RDs] at r
      obtain ⟨v, vr, rfl, a, b⟩ := r
      cases e1 : t.put d ρ with
      | none => rw [e1] at e; cases e
      | some ρ1 =>
        rw [e1] at e
        simp only [Tg.gs]
        refine ⟨v, vr, rfl, Tg.g_of t re a e1 fun σ1 re1 k1 => Tg.gs_of ts re1 b e fun σ2 re2 k2 => q σ2 re2 fun i hi => ?_⟩
        simp only [Tg.slotss, List.mem_append, not_or] at hi
        rw [k2 i hi.2, k1 i hi.1]
end
end
def sAsg (t : Tg) (m : EM) : SM := fun ρ S => (m ρ S).bindS ρ fun d S1 => match t.put d ρ with
  | some ρ' => .nx ρ' S1
  | none => .stk
section
variable {X : Cx} {W : WX} {e tg : Expr} {pos : Pos} {m : EM}
theorem sg_name (i : Nat) {x : Str} (hN : X.N.Nodup) (hi : X.N[i]? = some x := by rfl) (hx : Loc X.env.scope x := by first | exact Or.inl rfl | exact Or.inr rfl)
    (hf : X.fn x = true ∨ X.env.scope.names.lookup x = some .local := by first | exact .inl rfl | exact .inr rfl | assumption) : PG X (.Name x pos) (Tg.g X.K (.nm i)) := by
  simp only [Tg.g]; exact pg_name hN hi hx hf
theorem sgs_nil : PGs X [] (Tg.gs X.K []) := by simp only [Tg.gs]; exact pgs_nil
theorem sgs_cons {es : List Expr} {t : Tg} {ts : List Tg} (h1 : PG X e (Tg.g X.K t)) (h2 : PGs X es (Tg.gs X.K ts))
    (hs : (assignEach (e :: es) X.env).map (·.2) = assign e X.env :: (assignEach es X.env).map (·.2) := by rfl) : PGs X (e :: es) (Tg.gs X.K (t :: ts)) := by
  simp only [Tg.gs]; exact pgs_cons h1 h2 hs
theorem sg_tup {es : List Expr} {k : Nat} {ts : List Tg} (hc : X.calm = true) (h : PGs X es (Tg.gs X.K ts))
    (hn : (assignEach es X.env).length = ts.length := by rfl) (hst : (assignEach es X.env).findIdx? (·.1) = none := by rfl) : PG X (.Tuple es k pos) (Tg.g X.K (.tp ts)) := by
  simp only [Tg.g]; exact pg_tup hc h hn hst
theorem ss_asg {t : Tg} (he : SE X W e m) (hg : PG X tg (t.g X.K)) (hs : swapsWithSole [tg] e pos.line X.env = pure false := by rfl) (hw : swappedStores [tg] e X.env = pure none := by rfl)
    (h1 : (assignEach [tg] X.env).map (·.2) = [assign tg X.env] := by rfl) : SS X W (.Assign [tg] e pos) (sAsg t m) := by
  refine PS.imp (ps_asg he hg hs hw h1) fun D σ H h => ?_
  obtain ⟨ι, ρ, S, re, rs, h⟩ := h
  refine ⟨ι, ρ, S, re, rs, PR.imp (fun v H1 hh => ?_) (PR.bindS (rel := rD X.K) re h)⟩
  obtain ⟨ι1, d, S1, x1, rs1, r1, h1⟩ := hh
  cases e1 : t.put d ρ with
  | none => simp only [e1] at h1; exact h1.elim
  | some ρ' =>
    simp only [e1] at h1
    exact Tg.g_of t (re.mono x1) r1 e1 fun σ' re' _ => h1.next rs1 re'
/-- a, b = x, y, both sides written -/
def sPar (i j : Nat) (ms : AM) : SM := fun ρ S => (ms ρ S).bindS ρ fun ds S1 => match ds with
  | [d, d'] => .nx ((ρ.set i (some d)).set j (some d')) S1
  | _ => .stk
theorem ss_par (i j : Nat) {x y : Str} {a b : Expr} {ms : AM} {px py pt : Pos} {kt k2 : Nat} {pt2 : Pos} (hc : X.calm = true) (hN : X.N.Nodup) (ha : SA X W [a, b] ms) (hi : X.N[i]? = some x := by rfl) (hj : X.N[j]? = some y := by rfl) (hij : i ≠ j := by decide)
    (hx : X.env.scope.names.lookup x = some .local := by rfl) (hy : X.env.scope.names.lookup y = some .local := by rfl)
    (hw : swappedStores [.Tuple [.Name x px, .Name y py] kt pt] (.Tuple [a, b] k2 pt2) X.env = pure (some [x, y]) := by rfl)
    (hs : swapsWithSole [.Tuple [.Name x px, .Name y py] kt pt] (.Tuple [a, b] k2 pt2) pos.line X.env = pure false := by rfl) :
    SS X W (.Assign [.Tuple [.Name x px, .Name y py] kt pt] (.Tuple [a, b] k2 pt2) pos) (sPar i j ms) := by
  refine PS.imp (ps_par hc hN hi hj hij hx hy ha hw hs) fun D σ H h => ?_
  obtain ⟨ι, ρ, S, re, rs, h⟩ := h
  refine ⟨ι, ρ, S, re, rs, PR.imp (fun v H1 hh => ?_) (PR.bindS (rel := rDs X.K) re h)⟩
  obtain ⟨ι1, d, S1, x1, rs1, r1, h1⟩ := hh
  split at h1
  · simp only [RDs] at r1
    obtain ⟨v1, _, rfl, ra, v2, _, rfl, rb, rfl⟩ := r1
    exact ⟨v1, v2, rfl, h1.next rs1 (((re.mono x1).put ra).put rb)⟩
  · exact h1.elim
end
end DL

/-! the D-layer: what is walked; while, for, comprehensions -/
namespace DL
open PySem L2

inductive Src where
  | lst (n : Nat) | tup (xs : List D) | str (x : Str) | rng (lo : Int) (n : Nat) | enL (n : Nat) | zpL (n m : Nat) | zpT (xs ys : List D)
def zpAt (xs ys : List D) (i : Nat) : Option D := match xs[i]?, ys[i]? with
  | some x, some y => some (.tup [x, y])
  | _, _ => none
/-- the i-th turn: none: not to be told; some none: the end -/
def Src.at_ (s : Src) (i : Nat) (S : Sto) : Option (Option D) := match s with
  | .lst n => (seqAt S n).map fun xs => xs[i]?
  | .tup xs => some xs[i]?
  | .str x => some (x.cps[i]?.map fun c => .str ⟨#[c]⟩)
  | .rng lo n => some (if i < n then some (.int (lo + i)) else none)
  | .enL n => (seqAt S n).map fun xs => xs[i]?.map fun x => .tup [.int (i : Nat), x]
  | .zpL n m => (seqAt S n).bind fun xs => (seqAt S m).map fun ys => zpAt xs ys i
  | .zpT xs ys => some (zpAt xs ys i)

section
variable (K : PySem.W.Frag)
def ItOk (ι : List Addr) (H : Hp) (J : It) (s : Src) : Prop := ∀ ι' H' S i, Ext K ι H ι' H' → RS K ι' H' S → match s.at_ i S with
  | none => True
  | some none => J.stop i H'
  | some (some d) => J.go i H' ∧ ∀ v H'', J.yld i H' v H'' → ∃ ι'', Ext K ι' H' ι'' H'' ∧ RS K ι'' H'' S ∧ RD K ι'' H'' d v
abbrev rI : Rel Src It := fun ι H s J => ItOk K ι H J s
end
abbrev IM := Ev → Sto → R Src
abbrev SI (X : Cx) (W : WX) (tg e : Expr) (m : IM) : Prop := PI X tg e (tG X.K (rI X.K) W m)
section
variable {K : PySem.W.Frag} {ι : List Addr} {H : Hp}
theorem ItOk.rng (lo : Int) (n : Nat) : ItOk K ι H (Itr lo n) (.rng lo n) := fun ι' H' S i x rs => by
  unfold Src.at_
  dsimp only
  by_cases hi : i < n
  · rw [if_pos hi]
    exact ⟨hi, fun v H'' hy => by obtain ⟨rfl, rfl⟩ := hy; exact ⟨ι', .refl, rs, by simp only [RD]⟩⟩
  · rw [if_neg hi]; exact Nat.le_of_not_lt hi
theorem ItOk.str (z : Str) : ItOk K ι H (Its z) (.str z) := fun ι' H' S i x rs => by
  unfold Src.at_
  dsimp only
  cases e : z.cps[i]? with
  | none => exact Array.getElem?_eq_none_iff.mp e
  | some c =>
    refine ⟨(Array.getElem?_eq_some_iff.mp e).1, fun v H'' hy => ?_⟩
    obtain ⟨rfl, c', e', rfl⟩ := hy
    rw [e] at e'; cases e'
    exact ⟨ι', .refl, rs, by simp only [RD]⟩
theorem ItOk.tup {p : Addr} {vs : List V} {xs : List D} (q : SqT K H p vs) (r : RDs K ι H xs vs) : ItOk K ι H (Itt K p) (.tup xs) := fun ι' H' S i x rs => by
  unfold Src.at_
  dsimp only
  have q' := x.tup _ _ q
  have r' := RDs.mono x r
  cases e : xs[i]? with
  | none => exact ⟨vs, q', by rw [r.length]; exact List.getElem?_eq_none_iff.mp e⟩
  | some d =>
    obtain ⟨v, ev, rv⟩ := r'.get e
    refine ⟨⟨vs, v, q', ev⟩, fun u H'' hy => ?_⟩
    obtain ⟨rfl, hu⟩ := hy
    have := hu vs q'
    rw [ev] at this; cases this
    exact ⟨ι', .refl, rs, rv⟩
theorem ItOk.lst {p : Addr} {n : Nat} (hp : ι[n]? = some p) : ItOk K ι H (Itl K p) (.lst n) := fun ι' H' S i x rs => by
  unfold Src.at_
  dsimp only
  cases e : seqAt S n with
  | none => trivial
  | some xs =>
    obtain ⟨p', vs, ep, _, q, r⟩ := rs.seq (v := .ref p) e (by simp only [RD]; exact ⟨p, rfl, x.ix hp⟩)
    cases ep
    simp only [Option.map_some]
    cases e2 : xs[i]? with
    | none => exact ⟨vs, q, by rw [r.length]; exact List.getElem?_eq_none_iff.mp e2⟩
    | some d =>
      obtain ⟨v, ev, rv⟩ := r.get e2
      refine ⟨⟨vs, v, q, ev⟩, fun u H'' hy => ?_⟩
      obtain ⟨rfl, hu⟩ := hy
      have := hu vs q
      rw [ev] at this; cases this
      exact ⟨ι', .refl, rs, rv⟩
theorem pair_new {ι' : List Addr} {H' : Hp} {S : Sto} {T : Addr} {a b : V} {x y : D} (rs : RS K ι' H' S) (nT : H' T = none) (ra : RD K ι' H' x a) (rb : RD K ι' H' y b) :
    ∃ ι'', Ext K ι' H' ι'' (upd H' T (.tup [a, b])) ∧ RS K ι'' (upd H' T (.tup [a, b])) S ∧ RD K ι'' (upd H' T (.tup [a, b])) (.tup [x, y]) (.ref T) := by
  refine ⟨ι', .new nT, rs.new nT, ?_⟩
  simp only [RD]
  exact ⟨T, [a, b], rfl, .inl (.inl upd_same), .cons (RD.mono (.new nT) ra) (.cons (RD.mono (.new nT) rb) .nil)⟩
theorem ItOk.enL {p : Addr} {n : Nat} (hp : ι[n]? = some p) : ItOk K ι H (Ite K p) (.enL n) := fun ι' H' S i x rs => by
  unfold Src.at_
  dsimp only
  cases e : seqAt S n with
  | none => trivial
  | some xs =>
    obtain ⟨p', vs, ep, _, q, r⟩ := rs.seq (v := .ref p) e (by simp only [RD]; exact ⟨p, rfl, x.ix hp⟩)
    cases ep
    simp only [Option.map_some]
    cases e2 : xs[i]? with
    | none => exact ⟨vs, q, by rw [r.length]; exact List.getElem?_eq_none_iff.mp e2⟩
    | some d =>
      obtain ⟨v, ev, rv⟩ := r.get e2
      refine ⟨⟨vs, v, q, ev⟩, fun u H'' hy => ?_⟩
      obtain ⟨T, w, rfl, nT, rfl, hu⟩ := hy
      have := hu vs q
      rw [ev] at this; cases this
      exact pair_new rs nT (by simp only [RD]) rv
theorem zpAt_none {xs ys : List D} {i : Nat} (h : zpAt xs ys i = none) : xs.length ≤ i ∨ ys.length ≤ i := by
  unfold zpAt at h
  split at h
  · cases h
  · rename_i hn
    cases e : xs[i]? with
    | none => exact .inl (List.getElem?_eq_none_iff.mp e)
    | some x =>
      cases e2 : ys[i]? with
      | none => exact .inr (List.getElem?_eq_none_iff.mp e2)
      | some y => exact (hn x y e e2).elim
theorem zpAt_some {xs ys : List D} {i : Nat} {d : D} (h : zpAt xs ys i = some d) : ∃ x y, xs[i]? = some x ∧ ys[i]? = some y ∧ d = .tup [x, y] := by
  unfold zpAt at h
  split at h
  · rename_i x y e e2
    exact ⟨x, y, e, e2, (Option.some.inj h).symm⟩
  · cases h
theorem ItOk.zpL {p q : Addr} {n m : Nat} (hp : ι[n]? = some p) (hq : ι[m]? = some q) : ItOk K ι H (Itz K p q) (.zpL n m) := fun ι' H' S i x rs => by
  unfold Src.at_
  dsimp only
  cases e : seqAt S n with
  | none => trivial
  | some xs =>
    cases e' : seqAt S m with
    | none => trivial
    | some ys =>
      obtain ⟨p', vs, ep, _, s1, r1⟩ := rs.seq (v := .ref p) e (by simp only [RD]; exact ⟨p, rfl, x.ix hp⟩)
      cases ep
      obtain ⟨q', us, eq, _, s2, r2⟩ := rs.seq (v := .ref q) e' (by simp only [RD]; exact ⟨q, rfl, x.ix hq⟩)
      cases eq
      simp only [Option.map_some, Option.bind_some]
      cases e2 : zpAt xs ys i with
      | none => exact ⟨vs, us, s1, s2, by rw [r1.length, r2.length]; exact zpAt_none e2⟩
      | some d =>
        obtain ⟨a, b, ea, eb, rfl⟩ := zpAt_some e2
        obtain ⟨v, ev, rv⟩ := r1.get ea
        obtain ⟨u, eu, ru⟩ := r2.get eb
        refine ⟨⟨vs, us, v, u, s1, s2, ev, eu⟩, fun u' H'' hy => ?_⟩
        obtain ⟨T, a', b', rfl, nT, rfl, h1, h2⟩ := hy
        have t1 := h1 vs s1
        have t2 := h2 us s2
        rw [ev] at t1; cases t1
        rw [eu] at t2; cases t2
        exact pair_new rs nT rv ru
theorem ItOk.zpT {p q : Addr} {vs us : List V} {xs ys : List D} (s1 : SqT K H p vs) (s2 : SqT K H q us) (r1 : RDs K ι H xs vs) (r2 : RDs K ι H ys us) : ItOk K ι H (RZ.ItzT K p q) (.zpT xs ys) := fun ι' H' S i x rs => by
  unfold Src.at_
  dsimp only
  cases e2 : zpAt xs ys i with
  | none => exact ⟨vs, us, x.tup _ _ s1, x.tup _ _ s2, by rw [r1.length, r2.length]; exact zpAt_none e2⟩
  | some d =>
    obtain ⟨a, b, ea, eb, rfl⟩ := zpAt_some e2
    obtain ⟨v, ev, rv⟩ := (RDs.mono x r1).get ea
    obtain ⟨u, eu, ru⟩ := (RDs.mono x r2).get eb
    refine ⟨⟨vs, us, v, u, x.tup _ _ s1, x.tup _ _ s2, ev, eu⟩, fun u' H'' hy => ?_⟩
    obtain ⟨T, a', b', rfl, nT, rfl, h1, h2⟩ := hy
    have t1 := h1 vs (x.tup _ _ s1)
    have t2 := h2 us (x.tup _ _ s2)
    rw [ev] at t1; cases t1
    rw [eu] at t2; cases t2
    exact pair_new rs nT rv ru
end
def iAny (m : EM) : IM := fun ρ S => (m ρ S).bind fun d S1 => match d with
  | .ref n => if (seqAt S1 n).isSome = true then .ok (.lst n) S1 else .stk
  | .tup xs => .ok (.tup xs) S1
  | .str x => .ok (.str x) S1
  | _ => .stk
def inR (i : Int) : Bool := decide (-(2 ^ 62) ≤ i) && decide (i < 2 ^ 62)
def iRg1 (ms : AM) : IM := fun ρ S => (ms ρ S).bind fun ds S1 => match ds with
  | [.int j] => if inR j = true then .ok (.rng 0 j.toNat) S1 else .stk
  | _ => .stk
def iRg2 (ms : AM) : IM := fun ρ S => (ms ρ S).bind fun ds S1 => match ds with
  | [.int i, .int j] => if (inR i && inR j) = true then .ok (.rng i (j - i).toNat) S1 else .stk
  | _ => .stk
def iEn (ms : AM) : IM := fun ρ S => (ms ρ S).bind fun ds S1 => match ds with
  | [.ref n] => if (seqAt S1 n).isSome = true then .ok (.enL n) S1 else .stk
  | _ => .stk
def iZp (ms : AM) : IM := fun ρ S => (ms ρ S).bind fun ds S1 => match ds with
  | [.ref n, .ref m] => if ((seqAt S1 n).isSome && (seqAt S1 m).isSome) = true then .ok (.zpL n m) S1 else .stk
  | [.tup xs, .tup ys] => .ok (.zpT xs ys) S1
  | _ => .stk
section
variable {X : Cx} {W : WX} {tg e e2 : Expr} {m : EM} {ms : AM} {p pos : Pos}
theorem PI.imp {t t' : TI} (h : PI X tg e t) (q : ∀ σ H Q, t' σ H Q → t σ H Q) : PI X tg e t' := ⟨fun pins s σ H Q I w => h.run pins s σ H Q I (q _ _ _ w)⟩
theorem PI.or {t t' : TI} (h : PI X tg e t) (h' : PI X tg e t') : PI X tg e (fun σ H R => t σ H R ∨ t' σ H R) :=
  ⟨fun pins s σ H Q I w => w.elim (h.run pins s σ H Q I) (h'.run pins s σ H Q I)⟩
theorem si_any (he : SE X W e m) : SI X W tg e (iAny m) := by
  refine PI.imp (PI.or (pi_list he) (PI.or (pi_tup he) (pi_str he))) fun σ H Q h => ?_
  obtain ⟨ι, ρ, S, re, rs, h⟩ := h
  unfold iAny at h
  cases em : m ρ S with
  | stk => rw [em] at h; exact h.elim
  | ex e S1 => rw [em] at h; exact .inl ⟨ι, ρ, S, re, rs, by rw [em]; exact h⟩
  | ok d S1 =>
    rw [em] at h
    cases d with
    | ref n =>
      refine .inl ⟨ι, ρ, S, re, rs, ?_⟩
      rw [em]
      simp only [bind_ok] at h
      split at h
      · rename_i hs
        refine fun ι1 v H1 x1 rs1 r1 => ?_
        obtain ⟨xs, hx⟩ := Option.isSome_iff_exists.mp hs
        obtain ⟨p, vs, rfl, hp, q, r⟩ := rs1.seq hx r1
        exact ⟨p, rfl, ⟨vs, q⟩, h ι1 _ H1 x1 rs1 (.lst hp)⟩
      · exact h.elim
    | tup xs =>
      refine .inr (.inl ⟨ι, ρ, S, re, rs, ?_⟩)
      rw [em]
      simp only [bind_ok] at h
      refine fun ι1 v H1 x1 rs1 r1 => ?_
      simp only [rD, RD] at r1
      obtain ⟨p, vs, rfl, q, r⟩ := r1
      exact ⟨p, rfl, ⟨vs, q⟩, h ι1 _ H1 x1 rs1 (.tup q r)⟩
    | str z =>
      refine .inr (.inr ⟨ι, ρ, S, re, rs, ?_⟩)
      rw [em]
      simp only [bind_ok] at h
      refine fun ι1 v H1 x1 rs1 r1 => ?_
      simp only [rD, RD] at r1
      exact ⟨z, r1, h ι1 _ H1 x1 rs1 (.str z)⟩
    | _ => exact h.elim
theorem inR_of {i : Int} (h : inR i = true) : -(2 ^ 62) ≤ i ∧ i < 2 ^ 62 := by
  unfold inR at h
  rw [Bool.and_eq_true] at h
  exact ⟨of_decide_eq_true h.1, of_decide_eq_true h.2⟩
theorem si_range1 (hg : Gl X "range") (hm : X.mg "range" = none) (ha : SA X W [e] ms) (hs : starEach [e] X.env = [(false, eval e X.env)] := by rfl) : SI X W tg (.Call (.Name "range" p) [e] [] pos) (iRg1 ms) := by
  refine PI.imp (pi_range1 hg hm ha hs) fun σ H Q h => ?_
  obtain ⟨ι, ρ, S, re, rs, h⟩ := h
  refine ⟨ι, ρ, S, re, rs, PR.imp (fun v H1 hh => ?_) (PR.bind (rel := rDs X.K) h)⟩
  obtain ⟨ι1, d, S1, x1, rs1, r1, h1⟩ := hh
  split at h1
  · rename_i j
    split at h1
    · rename_i hj
      simp only [rDs, RDs, RD] at r1
      obtain ⟨v1, _, rfl, rfl, rfl⟩ := r1
      exact ⟨j, rfl, (inR_of hj).1, (inR_of hj).2, h1.ret rs1 (.rng 0 _)⟩
    · exact h1.elim
  · exact h1.elim
theorem si_range2 (hg : Gl X "range") (hm : X.mg "range" = none) (ha : SA X W [e, e2] ms) (hs : starEach [e, e2] X.env = [(false, eval e X.env), (false, eval e2 X.env)] := by rfl) (hs2 : starEach [e2] X.env = [(false, eval e2 X.env)] := by rfl) :
    SI X W tg (.Call (.Name "range" p) [e, e2] [] pos) (iRg2 ms) := by
  refine PI.imp (pi_range2 hg hm ha hs hs2) fun σ H Q h => ?_
  obtain ⟨ι, ρ, S, re, rs, h⟩ := h
  refine ⟨ι, ρ, S, re, rs, PR.imp (fun v H1 hh => ?_) (PR.bind (rel := rDs X.K) h)⟩
  obtain ⟨ι1, d, S1, x1, rs1, r1, h1⟩ := hh
  split at h1
  · rename_i i j
    split at h1
    · rename_i hj
      rw [Bool.and_eq_true] at hj
      simp only [rDs, RDs, RD] at r1
      obtain ⟨v1, _, rfl, rfl, v2, _, rfl, rfl, rfl⟩ := r1
      exact ⟨i, j, rfl, ⟨(inR_of hj.1).1, (inR_of hj.1).2, (inR_of hj.2).1, (inR_of hj.2).2⟩, h1.ret rs1 (.rng i _)⟩
    · exact h1.elim
  · exact h1.elim
theorem si_enum {elts : List Expr} {kk : Nat} {tpos : Pos} (hg : Gl X "enumerate") (hm : X.mg "enumerate" = none) (ha : SA X W [e] ms) (hs : starEach [e] X.env = [(false, eval e X.env)] := by rfl) :
    SI X W (.Tuple elts kk tpos) (.Call (.Name "enumerate" p) [e] [] pos) (iEn ms) := by
  refine PI.imp (pi_enum hg hm ha hs) fun σ H Q h => ?_
  obtain ⟨ι, ρ, S, re, rs, h⟩ := h
  refine ⟨ι, ρ, S, re, rs, PR.imp (fun v H1 hh => ?_) (PR.bind (rel := rDs X.K) h)⟩
  obtain ⟨ι1, d, S1, x1, rs1, r1, h1⟩ := hh
  split at h1
  · rename_i n
    split at h1
    · rename_i hs
      obtain ⟨xs, hx⟩ := Option.isSome_iff_exists.mp hs
      simp only [rDs, RDs] at r1
      obtain ⟨v1, _, rfl, r1, rfl⟩ := r1
      obtain ⟨p, vs, rfl, hp, q, r⟩ := rs1.seq hx r1
      exact ⟨p, vs, rfl, q, h1.ret rs1 (.enL hp)⟩
    · exact h1.elim
  · exact h1.elim
theorem si_zip {elts : List Expr} {kk : Nat} {tpos : Pos} (hg : Gl X "zip") (hm : X.mg "zip" = none) (ha : SA X W [e, e2] ms)
    (hs : starEach [e, e2] X.env = (false, eval e X.env) :: starEach [e2] X.env := by rfl) (hpl : (backTo pos (starEach [e2] X.env)).any (·.1) = false := by rfl) :
    SI X W (.Tuple elts kk tpos) (.Call (.Name "zip" p) [e, e2] [] pos) (iZp ms) := by
  refine PI.imp (RZ.pi_zipA hg hm ha hs hpl) fun σ H Q h => ?_
  obtain ⟨ι, ρ, S, re, rs, h⟩ := h
  refine ⟨ι, ρ, S, re, rs, PR.imp (fun v H1 hh => ?_) (PR.bind (rel := rDs X.K) h)⟩
  obtain ⟨ι1, d, S1, x1, rs1, r1, h1⟩ := hh
  split at h1
  · rename_i n m'
    split at h1
    · rename_i hs
      rw [Bool.and_eq_true] at hs
      obtain ⟨xs, hx⟩ := Option.isSome_iff_exists.mp hs.1
      obtain ⟨ys, hy⟩ := Option.isSome_iff_exists.mp hs.2
      simp only [rDs, RDs] at r1
      obtain ⟨v1, _, rfl, r1, v2, _, rfl, r2, rfl⟩ := r1
      obtain ⟨p, vs, rfl, hp, q, r⟩ := rs1.seq hx r1
      obtain ⟨p2, us, rfl, hp2, q2, r2⟩ := rs1.seq hy r2
      exact ⟨p, p2, vs, us, rfl, .inl ⟨q, q2, h1.ret rs1 (.zpL hp hp2)⟩⟩
    · exact h1.elim
  · rename_i xs ys
    simp only [rDs, RDs, RD] at r1
    obtain ⟨v1, _, rfl, ⟨p, vs, rfl, q, r⟩, v2, _, rfl, ⟨p2, us, rfl, q2, r2⟩, rfl⟩ := r1
    exact ⟨p, p2, vs, us, rfl, .inr ⟨q, q2, h1.ret rs1 (.zpT q q2 r r2)⟩⟩
  · exact h1.elim
end

/-! ### for, while -/
/-- more than any list has items -/
def FUEL : Nat := 2 ^ 24 + 100
def loopF (s : Src) (t : Tg) (b : SM) : Nat → Nat → Ev → Sto → SR
  | 0, _, _, _ => .stk
  | f + 1, i, ρ, S => match s.at_ i S with
    | none => .stk
    | some none => .nx ρ S
    | some (some d) => match t.put d ρ with
      | none => .stk
      | some ρ1 => match b ρ1 S with
        | .nx ρ2 S2 => loopF s t b f (i + 1) ρ2 S2
        | .ct ρ2 S2 => loopF s t b f (i + 1) ρ2 S2
        | .bk ρ2 S2 => .nx ρ2 S2
        | .rt d S2 => .rt d S2
        | .ex e ρ2 S2 => .ex e ρ2 S2
        | .stk => .stk
def sFor (ms : IM) (t : Tg) (b : SM) : SM := fun ρ S => (ms ρ S).bindS ρ fun s S1 => loopF s t b FUEL 0 ρ S1
def loopW (c : TM) (b : SM) : Nat → Ev → Sto → SR
  | 0, _, _ => .stk
  | f + 1, ρ, S => (c ρ S).bindS ρ fun k S1 => if k = true then (match b ρ S1 with
      | .nx ρ2 S2 => loopW c b f ρ2 S2
      | .ct ρ2 S2 => loopW c b f ρ2 S2
      | .bk ρ2 S2 => .nx ρ2 S2
      | .rt d S2 => .rt d S2
      | .ex e ρ2 S2 => .ex e ρ2 S2
      | .stk => .stk) else .nx ρ S1
def sWhile (c : TM) (b : SM) : SM := fun ρ S => loopW c b FUEL ρ S
section
variable {X : Cx} {W : WX} {tg iter : Expr} {body : List Stmt} {pos : Pos} {ms : IM} {t : Tg} {b : SM} {c : TM}
theorem ss_for (hp : PassesOwn (model X.prog X.w) X.A X.env X.xe) (hc : X.calm = true) (hi : SI X W tg iter ms) (hg : PG X tg (t.g X.K)) (hb : SSs X W body b)
    (hs : ∀ x, foldedSetIterable iter X.env x = pure x := by intro _; rfl) : SS X W (.For tg iter body [] pos) (sFor ms t b) := by
  refine PS.imp (ps_for hp hc hi hg hb hs) fun D σ H h => ?_
  obtain ⟨ι, ρ, S, re, rs, h⟩ := h
  refine ⟨ι, ρ, S, re, rs, PR.imp (fun J H1 hh => ?_) (PR.bindS (rel := rI X.K) re h)⟩
  obtain ⟨ι1, s, S1, x1, rs1, ok, h1⟩ := hh
  refine ⟨fun i m σ' H' => ∃ ι' ρ' S', Ext X.K ι1 H1 ι' H' ∧ RE X.K ι' H' ρ' σ' ∧ RS X.K ι' H' S' ∧ PQ X.K W ι' H' D (loopF s t b m i ρ' S'), ⟨FUEL, ι1, ρ, S1, .refl, re.mono x1, rs1, h1⟩, fun i m σ' H' hw => ?_⟩
  obtain ⟨ι', ρ', S', x', re', rs', h'⟩ := hw
  cases m with
  | zero => exact h'.elim
  | succ m =>
    unfold loopF at h'
    have k := ok ι' H' S' i x' rs'
    cases ea : s.at_ i S' with
    | none => rw [ea] at h'; exact h'.elim
    | some o =>
      rw [ea] at h' k
      cases o with
      | none => exact .inl ⟨k, h'.next rs' re'⟩
      | some d =>
        obtain ⟨go, yl⟩ := k
        refine .inr ⟨go, fun σ2 H2 => ∃ ι2 ρ2 S2, Ext X.K ι1 H1 ι2 H2 ∧ RE X.K ι2 H2 ρ2 σ2 ∧ RS X.K ι2 H2 S2 ∧ PQ X.K W ι2 H2 D (loopF s t b m (i + 1) ρ2 S2), fun σ2 H2 q => ⟨m, Nat.lt_succ_self _, q⟩, fun v H2 hy => ?_⟩
        obtain ⟨ι2, x2, rs2, r2⟩ := yl v H2 hy
        dsimp only at h'
        cases et : t.put d ρ' with
        | none => rw [et] at h'; exact h'.elim
        | some ρ1 =>
          rw [et] at h'
          refine Tg.g_of t (re'.mono x2) r2 et fun σ3 re3 _ => ⟨ι2, ρ1, S', re3, rs2, ?_⟩
          dsimp only at h'
          cases eb : b ρ1 S' with
          | stk => rw [eb] at h'; exact h'
          | nx ρ4 S4 =>
            rw [eb] at h'
            exact fun ι4 σ4 H4 x4 rs4 re4 => ⟨ι4, ρ4, S4, x'.trans (x2.trans x4), re4, rs4, PQ.mono (x2.trans x4) h'⟩
          | ct ρ4 S4 =>
            rw [eb] at h'
            exact fun ι4 σ4 H4 x4 rs4 re4 => ⟨ι4, ρ4, S4, x'.trans (x2.trans x4), re4, rs4, PQ.mono (x2.trans x4) h'⟩
          | bk ρ4 S4 =>
            rw [eb] at h'
            exact fun ι4 σ4 H4 x4 rs4 re4 => h' ι4 σ4 H4 (x2.trans x4) rs4 re4
          | rt d S4 =>
            rw [eb] at h'
            exact fun ι4 σ4 H4 x4 rs4 re4 => h' ι4 σ4 H4 (x2.trans x4) rs4 re4
          | ex e ρ4 S4 =>
            rw [eb] at h'
            exact fun ι4 σ4 H4 cls dd x4 rs4 re4 => h' ι4 σ4 H4 cls dd (x2.trans x4) rs4 re4
theorem ss_while {e : Expr} (hp : PassesOwn (model X.prog X.w) X.A X.env X.xe) (hc : ST X W e c) (hb : SSs X W body b) : SS X W (.While e body [] pos) (sWhile c b) := by
  refine PS.imp (ps_while hp hc hb) fun D σ H h => ?_
  obtain ⟨ι, ρ, S, re, rs, h⟩ := h
  refine ⟨fun m σ' H' => ∃ ι' ρ' S', RE X.K ι' H' ρ' σ' ∧ RS X.K ι' H' S' ∧ PQ X.K W ι' H' D (loopW c b m ρ' S'), ⟨FUEL, ι, ρ, S, re, rs, h⟩, fun m σ' H' hw => ?_⟩
  obtain ⟨ι', ρ', S', re', rs', h'⟩ := hw
  cases m with
  | zero => exact h'.elim
  | succ m =>
    unfold loopW at h'
    refine ⟨ι', ρ', S', re', rs', PR.imp (fun k H1 hh => ?_) (PR.bindS (rel := rB) re' h')⟩
    obtain ⟨ι1, d, S1, x1, rs1, r1, h1⟩ := hh
    cases r1
    cases k with
    | false => exact iteF (h1.next rs1 (re'.mono x1))
    | true =>
      refine iteT ⟨fun σ2 H2 => ∃ ι2 ρ2 S2, RE X.K ι2 H2 ρ2 σ2 ∧ RS X.K ι2 H2 S2 ∧ PQ X.K W ι2 H2 D (loopW c b m ρ2 S2), fun σ2 H2 q => ⟨m, Nat.lt_succ_self _, q⟩, ι1, ρ', S1, re'.mono x1, rs1, ?_⟩
      simp only [if_true] at h1
      cases eb : b ρ' S1 with
      | stk => rw [eb] at h1; exact h1
      | nx ρ4 S4 =>
        rw [eb] at h1
        exact fun ι4 σ4 H4 x4 rs4 re4 => ⟨ι4, ρ4, S4, re4, rs4, PQ.mono x4 h1⟩
      | ct ρ4 S4 =>
        rw [eb] at h1
        exact fun ι4 σ4 H4 x4 rs4 re4 => ⟨ι4, ρ4, S4, re4, rs4, PQ.mono x4 h1⟩
      | bk ρ4 S4 => rw [eb] at h1; exact h1
      | rt d S4 => rw [eb] at h1; exact h1
      | ex e ρ4 S4 => rw [eb] at h1; exact h1
end

/-! ### comprehensions -/
def wipeE (ρ : Ev) : List Nat → Ev
  | [] => ρ
  | v :: vs => (wipeE ρ vs).set v none
theorem wipeE_len (ρ : Ev) : ∀ vs : List Nat, (wipeE ρ vs).length = ρ.length
  | [] => rfl
  | v :: vs => by unfold wipeE; rw [List.length_set, wipeE_len ρ vs]
theorem RE.wipe {K : PySem.W.Frag} {ι : List Addr} {H : Hp} {ρ : Ev} {σ : L2.St} (r : RE K ι H ρ σ) : ∀ vs : List Nat, RE K ι H (wipeE ρ vs) (L2.wipe σ vs)
  | [] => r
  | v :: vs => by
    have ih := RE.wipe r vs
    refine ⟨by unfold wipeE L2.wipe; rw [List.length_set, List.length_set]; exact ih.len, fun i d e => ?_⟩
    unfold wipeE at e
    by_cases hi : i = v
    · subst hi
      have hl : i < (wipeE ρ vs).length := by
        have := (List.getElem?_eq_some_iff.mp e).1
        simpa using this
      rw [List.getElem?_set_self hl] at e
      cases e
    · rw [List.getElem?_set_ne (Ne.symm hi)] at e
      obtain ⟨u, a, b⟩ := ih.at_ i d e
      exact ⟨u, by unfold L2.wipe; rw [List.getElem?_set_ne (Ne.symm hi)]; exact a, b⟩
theorem wipe_at (σ : L2.St) : ∀ (vs : List Nat) (i : Nat), (L2.wipe σ vs)[i]? = if i ∈ vs then (if i < σ.length then some none else none) else σ[i]?
  | [], i => by simp [L2.wipe]
  | v :: vs, i => by
    unfold L2.wipe
    by_cases hi : i = v
    · subst hi
      rw [List.getElem?_set, if_pos rfl, L2.wipe_length, if_pos List.mem_cons_self]
    · rw [List.getElem?_set_ne (Ne.symm hi), wipe_at σ vs i]
      have : i ∈ v :: vs ↔ i ∈ vs := by simp [hi]
      by_cases hm : i ∈ vs
      · rw [if_pos hm, if_pos (this.mpr hm)]
      · rw [if_neg hm, if_neg (fun z => hm (this.mp z))]
theorem wipe_again {σ σ2 : L2.St} {vs sl : List Nat} (hl : σ2.length = σ.length) (hs : ∀ i ∈ sl, i ∈ vs) (k : ∀ i, i ∉ sl → σ2[i]? = (L2.wipe σ vs)[i]?) : L2.wipe σ2 vs = L2.wipe σ vs := by
  refine List.ext_getElem? fun i => ?_
  rw [wipe_at σ2, wipe_at σ]
  by_cases hm : i ∈ vs
  · rw [if_pos hm, if_pos hm, hl]
  · rw [if_neg hm, if_neg hm, k i fun z => hm (hs i z), wipe_at, if_neg hm]
mutual
theorem Tg.put_len : ∀ (t : Tg) {d : D} {ρ ρ' : Ev}, t.put d ρ = some ρ' → ρ'.length = ρ.length
  | .nm i, d, ρ, ρ', h => by simp only [Tg.put, Option.some.injEq] at h; subst h; simp
  | .tp ts, d, ρ, ρ', h => by
    cases d with
    | tup xs => simp only [Tg.put] at h; exact Tg.puts_len2 ts h
    | _ => simp only [Tg.put] at h; cases h
theorem Tg.puts_len2 : ∀ (ts : List Tg) {ds : List D} {ρ ρ' : Ev}, Tg.puts ts ds ρ = some ρ' → ρ'.length = ρ.length
  | [], ds, ρ, ρ', h => by
    cases ds with
    | nil => simp only [Tg.puts, Option.some.injEq] at h; subst h; rfl
    | cons d ds => simp only [Tg.puts] at h; cases h
  | t :: ts, ds, ρ, ρ', h => by
    cases ds with
    | nil => simp only [Tg.puts] at h; cases h
    | cons d ds =>
      simp only [Tg.puts] at h
      cases e : t.put d ρ with
      | none => rw [e] at h; cases h
      | some ρ1 => rw [e] at h; exact (Tg.puts_len2 ts h).trans (Tg.put_len t e)
end
def loopC (s : Src) (t : Tg) (c : TM) (el : EM) (ρ0 : Ev) (a : Nat) : Nat → Nat → Sto → R D
  | 0, _, _ => .stk
  | f + 1, i, S => match s.at_ i S with
    | none => .stk
    | some none => .ok (.ref a) S
    | some (some d) => match t.put d ρ0 with
      | none => .stk
      | some ρ1 => match c ρ1 S with
        | .ok false S1 => loopC s t c el ρ0 a f (i + 1) S1
        | .ok true S1 => match el ρ1 S1 with
          | .ok y S2 => match S2[a]? with
            | some (.lst acc) => if acc.length < sizeLine then loopC s t c el ρ0 a f (i + 1) (S2.set a (.lst (acc ++ [y]))) else .stk
            | _ => .stk
          | _ => .stk
        | _ => .stk
def tTrue : TM := fun _ S => .ok true S
def mLc (ms : IM) (t : Tg) (c : TM) (el : EM) (vs : List Nat) : EM := fun ρ S => (ms ρ S).bind fun s S1 => loopC s t c el (wipeE ρ vs) S1.length FUEL 0 (S1 ++ [.lst []])
abbrev W0 : WX := fun _ _ _ _ => False
section
variable {X : Cx} {W : WX} {elt tg iter : Expr} {ifs : List Expr} {scope : Scope} {own : List (Str × Nat)} {pos : Pos} {ms : IM} {t : Tg} {c : TM} {el : EM}
abbrev STs (X : Cx) (W : WX) (ifs : List Expr) (m : TM) : Prop := PTs X ifs (tMT X.K W m)
theorem sts_nil : STs X W [] tTrue := ⟨fun pins s σ H Q I h => pts_nil.run pins s σ H Q I (by obtain ⟨ι, ρ, S, re, rs, h⟩ := h; exact h.ret rs rfl)⟩
theorem sts_one {e : Expr} {m : TM} (h : ST X W e m) : STs X W [e] m := pts_one h
theorem lc_go {K : PySem.W.Frag} {σ : L2.St} {H : Hp} {Q : VK} (hsl : ∀ i ∈ t.slots, i ∈ own.map (·.2)) (h : tM K W (mLc ms t c el (own.map (·.2))) σ H Q) :
    tLc (tG K (rI K) W ms) (t.g K) (tMT K W0 c) (tM K W0 el) (own.map (·.2)) σ H Q := by
  obtain ⟨ι, ρ, S, re, rs, h⟩ := h
  refine ⟨ι, ρ, S, re, rs, PR.imp (fun J H1 hh => ?_) (PR.bind (rel := rI K) h)⟩
  obtain ⟨ι1, s, S1, x1, rs1, ok, h1⟩ := hh
  intro Dd hD
  have hW := (re.mono x1).wipe (own.map (·.2))
  have hL : (ι1 ++ [Dd])[S1.length]? = some Dd := by rw [← rs1.len]; simp
  refine ⟨fun i m H' => ∃ ι' S', Ext K (ι1 ++ [Dd]) (upd H1 Dd (.lst [])) ι' H' ∧ RS K ι' H' S' ∧ PR K (rD K) W σ ι' H' Q (loopC s t c el (wipeE ρ (own.map (·.2))) S1.length m i S'), ⟨FUEL, ι1 ++ [Dd], S1 ++ [.lst []], .refl, rs1.push (c := .lst []) hD rfl ⟨[], upd_same, RDs.nil⟩, PR.mono (.push hD) h1⟩, fun i m H' hw => ?_⟩
  obtain ⟨ι', S', x', rs', h'⟩ := hw
  have x1' : Ext K ι1 H1 ι' H' := (Ext.push hD).trans x'
  cases m with
  | zero => exact h'.elim
  | succ m =>
    unfold loopC at h'
    have k := ok ι' H' S' i x1' rs'
    cases ea : s.at_ i S' with
    | none => rw [ea] at h'; exact h'.elim
    | some o =>
      rw [ea] at h' k
      cases o with
      | none => exact .inl ⟨k, h'.ret rs' (by simp only [RD]; exact ⟨Dd, rfl, x'.ix hL⟩)⟩
      | some d =>
        obtain ⟨go, yl⟩ := k
        refine .inr ⟨go, fun H2 => ∃ ι2 S2, Ext K (ι1 ++ [Dd]) (upd H1 Dd (.lst [])) ι2 H2 ∧ RS K ι2 H2 S2 ∧ PR K (rD K) W σ ι2 H2 Q (loopC s t c el (wipeE ρ (own.map (·.2))) S1.length m (i + 1) S2), fun H2 q => ⟨m, Nat.lt_succ_self _, q⟩, fun v H2 hy => ?_⟩
        obtain ⟨ι2, x2, rs2, r2⟩ := yl v H2 hy
        dsimp only at h'
        cases et : t.put d (wipeE ρ (own.map (·.2))) with
        | none => rw [et] at h'; exact h'.elim
        | some ρ1 =>
          rw [et] at h'
          have reW : RE K ι2 H2 (wipeE ρ (own.map (·.2))) (L2.wipe σ (own.map (·.2))) := (hW.mono x1').mono x2
          refine Tg.g_of t reW r2 et fun σ3 re3 k3 => ⟨?_, ι2, ρ1, S', re3, rs2, ?_⟩
          · refine wipe_again ?_ hsl k3
            have e1 := re3.len
            have e2 : ρ1.length = (wipeE ρ (own.map (·.2))).length := Tg.put_len t et
            rw [e2, wipeE_len] at e1
            rw [← e1]; exact re.len
          · dsimp only at h'
            cases ec : c ρ1 S' with
            | stk => rw [ec] at h'; exact h'.elim
            | ex e S4 => rw [ec] at h'; exact h'.elim
            | ok kk S4 =>
              rw [ec] at h'
              refine fun ι4 bb H4 x4 rs4 r4 => ?_
              cases r4
              cases kk with
              | false => exact iteF ⟨ι4, S4, x'.trans (x2.trans x4), rs4, PR.mono (x2.trans x4) h'⟩
              | true =>
                refine iteT ⟨ι4, ρ1, S4, re3.mono x4, rs4, ?_⟩
                dsimp only at h'
                cases ee : el ρ1 S4 with
                | stk => rw [ee] at h'; exact h'.elim
                | ex e S5 => rw [ee] at h'; exact h'.elim
                | ok y S5 =>
                  rw [ee] at h'
                  refine fun ι5 u H5 x5 rs5 r5 => ?_
                  dsimp only at h'
                  have xx := x2.trans (x4.trans x5)
                  split at h'
                  · rename_i acc eacc
                    split at h'
                    · rename_i hz
                      obtain ⟨p, vs, ep, hp, hH, rr⟩ := rs5.lst (v := .ref Dd) eacc (by simp only [RD]; exact ⟨Dd, rfl, xx.ix (x'.ix hL)⟩)
                      cases ep
                      have xp : Ext K ι5 H5 ι5 (upd H5 Dd (.lst (vs ++ [u]))) := .put hH (fun _ z => by cases z) (fun _ _ z => by cases z)
                      refine ⟨vs, hH, by rw [rr.length]; exact hz, ι5, S5.set S1.length (.lst (acc ++ [y])), x'.trans (xx.trans xp), ?_, PR.mono (xx.trans xp) h'⟩
                      exact rs5.put eacc hp rfl rfl ⟨vs ++ [u], upd_same, RDs.mono xp (rr.append (.cons r5 .nil))⟩
                    · exact h'.elim
                  · exact h'.elim
theorem se_lc (hc : X.calm = true) (hN : X.N.Nodup) (hi : SI X W tg iter ms) (ok : BlkOk X.N X.env.scope scope own)
    (hg : ∀ (s : Shared) (H : Hp) (C : Addr) (cl : List (Str × Addr)) (fp : List Addr), PG (X.blk s H scope (compEnvC scope cl C X.env) fp) tg (t.g X.K))
    (ht : ∀ (s : Shared) (H : Hp) (C : Addr) (cl : List (Str × Addr)) (fp : List Addr), STs (X.blk s H scope (compEnvC scope cl C X.env) fp) W0 ifs c)
    (he : ∀ (s : Shared) (H : Hp) (C : Addr) (cl : List (Str × Addr)) (fp : List Addr), SE (X.blk s H scope (compEnvC scope cl C X.env) fp) W0 elt el) (hsl : ∀ i ∈ t.slots, i ∈ own.map (·.2)) (hs : ∀ x, foldedSetIterable iter X.env x = pure x := by intro _; rfl) :
    SE X W (.ListComp elt [⟨tg, iter, ifs, 0⟩] scope pos) (mLc ms t c el (own.map (·.2))) :=
  PE.imp (pe_lc hc hN hi ok hg ht he hs) fun _ _ _ h => lc_go hsl h
theorem ss_setLc (i : Nat) {y : Str} {py spos : Pos} (hc : X.calm = true) (hN : X.N.Nodup) (hi : SI X W tg iter ms) (ok : BlkOk X.N X.env.scope scope own)
    (hg : ∀ (s : Shared) (H : Hp) (C : Addr) (cl : List (Str × Addr)) (fp : List Addr), PG (X.blk s H scope (compEnvC scope cl C X.env) fp) tg (t.g X.K))
    (ht : ∀ (s : Shared) (H : Hp) (C : Addr) (cl : List (Str × Addr)) (fp : List Addr), STs (X.blk s H scope (compEnvC scope cl C X.env) fp) W0 ifs c)
    (he : ∀ (s : Shared) (H : Hp) (C : Addr) (cl : List (Str × Addr)) (fp : List Addr), SE (X.blk s H scope (compEnvC scope cl C X.env) fp) W0 elt el) (hsl : ∀ i ∈ t.slots, i ∈ own.map (·.2))
    (hsw : swapsWith (.ListComp elt [⟨tg, iter, ifs, 0⟩] scope pos) (some (.Name y py)) spos.line X.env = pure true) (hy : X.N[i]? = some y := by rfl) (hyl : X.env.scope.names.lookup y = some .local := by rfl) (hs : ∀ x, foldedSetIterable iter X.env x = pure x := by intro _; rfl) :
    SS X W (.Assign [.Name y py] (.ListComp elt [⟨tg, iter, ifs, 0⟩] scope pos) spos) (sSet i (mLc ms t c el (own.map (·.2)))) := by
  refine PS.imp (ps_setLc hc hN hy hyl hsw hi ok hg ht he hs) fun D σ H h => lc_go hsl ?_
  obtain ⟨ι, ρ, S, re, rs, h⟩ := h
  refine ⟨ι, ρ, S, re, rs, PR.imp (fun v H1 hh => ?_) (PR.bindS (rel := rD X.K) re h)⟩
  obtain ⟨ι1, d, S1, x1, rs1, r1, h1⟩ := hh
  exact h1.next rs1 ((re.mono x1).put r1)
end
end DL

/-! the D-layer: operators, subscripts, comparisons -/
namespace DL
open PySem L2

section
variable {X : Cx}
theorem OpR.or {f : Value → Value → Sem Value} {r r' : R2} (h : OpR X f r) (h' : OpR X f r') : OpR X f (fun x y H Q => r x y H Q ∨ r' x y H Q) :=
  fun pins s σ H x y v u Q I rx ry w => w.elim (h pins s σ H x y v u Q I rx ry) (h' pins s σ H x y v u Q I rx ry)
theorem PE.or {e : Expr} {t t' : TE} (h : PE X e t) (h' : PE X e t') : PE X e (fun σ H Q => t σ H Q ∨ t' σ H Q) :=
  ⟨fun pins s σ H Q I w => w.elim (h.run pins s σ H Q I) (h'.run pins s σ H Q I)⟩
theorem PT.or {e : Expr} {t t' : TT} (h : PT X e t) (h' : PT X e t') : PT X e (fun σ H Q => t σ H Q ∨ t' σ H Q) :=
  ⟨fun pins s σ H Q I w => w.elim (h.run pins s σ H Q I) (h'.run pins s σ H Q I)⟩
theorem OpR.imp {f : Value → Value → Sem Value} {r r' : R2} (h : OpR X f r) (q : ∀ x y H Q, r' x y H Q → r x y H Q) : OpR X f r' :=
  fun pins s σ H x y v u Q I rx ry w => h pins s σ H x y v u Q I rx ry (q _ _ _ _ w)
end

/-! ### arithmetic -/
def dAdd : DOp := fun x y S => match x, y with
  | .int i, .int j => some (.int (i + j), S)
  | .int i, .bl k => some (.int (i + PyProof.Rows.b2i k), S)
  | .str a, .str b => if a.length + b.length ≤ sizeLine then some (.str (a ++ b), S) else none
  | .tup xs, .tup ys => if xs.length + ys.length ≤ sizeLine then some (.tup (xs ++ ys), S) else none
  | .ref n, .ref m => match S[n]?, S[m]? with
    | some (.lst xs), some (.lst ys) => if xs.length + ys.length ≤ sizeLine then some (.ref S.length, S ++ [.lst (xs ++ ys)]) else none
    | _, _ => none
  | _, _ => none
def dI (f : Int → Int → Int) (c : Int → Int → Bool) : DOp := fun x y S => match x, y with
  | .int i, .int j => if c i j = true then some (.int (f i j), S) else none
  | _, _ => none
def cMul (i j : Int) : Bool := (decide (-(2 ^ 64) < i) && decide (i < 2 ^ 64)) || (decide (-(2 ^ 64) < j) && decide (j < 2 ^ 64))
def dMul : DOp := fun x y S => match x, y with
  | .int i, .int j => if cMul i j = true then some (.int (i * j), S) else none
  | .ref n, .int k => match S[n]? with
    | some (.lst xs) => if (decide (-(2 ^ 63) ≤ k) && decide (k < 2 ^ 63) && decide (xs.length * k.toNat ≤ sizeLine)) = true then some (.ref S.length, S ++ [.lst (List.replicate k.toNat xs).flatten]) else none
    | _ => none
  | _, _ => none
def dSub : DOp := dI (· - ·) fun _ _ => true
def dFdiv : DOp := dI Int.fdiv fun _ j => decide (j ≠ 0) && decide (j.natAbs < 1073741824)
def dMod : DOp := dI Int.fmod fun _ j => decide (j ≠ 0)
def dPow : DOp := dI (fun i j => i ^ j.toNat) fun i j => decide (0 ≤ j) && decide (j ≤ 1000000) && decide (i.natAbs < 2 ^ 64)
def dNeg (x : D) (S : Sto) : Option (D × Sto) := match x with
  | .int i => some (.int (-i), S)
  | _ => none
section
variable {X : Cx}
theorem o_int {f : Value → Value → Sem Value} {g : Int → Int → Int} {c : Int → Int → Bool} {C : Int → Int → Prop} (h : OpR X f (L2.rI C fun i j => .int (g i j))) (hc : ∀ i j, c i j = true → C i j) : OpR X f (rOp X.K (dI g c)) := by
  refine OpR.imp h fun a b H Q hh => ?_
  obtain ⟨ι, S, x, y, rs, rx, ry, hh⟩ := hh
  unfold dI at hh
  split at hh
  · rename_i i j
    split at hh
    · rename_i hcc
      simp only [RD] at rx ry
      exact ⟨i, j, rx, ry, hc i j hcc, hh.ret rs (by simp only [RD])⟩
    · exact hh.elim
  · exact hh.elim
theorem o_sub : OpR X (binaryOp .Sub) (rOp X.K dSub) := by
  refine OpR.imp op_sub fun a b H Q hh => ?_
  obtain ⟨ι, S, x, y, rs, rx, ry, hh⟩ := hh
  unfold dSub dI at hh
  split at hh
  · rename_i i j
    simp only [RD] at rx ry
    exact ⟨i, j, rx, ry, PV.ret hh rs (by simp only [RD])⟩
  · exact hh.elim
theorem o_fdiv : OpR X (binaryOp .FloorDiv) (rOp X.K dFdiv) := o_int op_fdivN fun i j h => by
  rw [Bool.and_eq_true] at h
  exact ⟨of_decide_eq_true h.1, of_decide_eq_true h.2⟩
theorem o_mod : OpR X (binaryOp .Mod) (rOp X.K dMod) := o_int op_modN fun i j h => of_decide_eq_true h
theorem o_pow : OpR X (binaryOp .Pow) (rOp X.K dPow) := o_int op_pow fun i j h => by
  rw [Bool.and_eq_true, Bool.and_eq_true] at h
  exact ⟨of_decide_eq_true h.1.1, of_decide_eq_true h.1.2, of_decide_eq_true h.2⟩
theorem RDs.rep {K : PySem.W.Frag} {ι : List Addr} {H : Hp} {xs : List D} {vs : List V} (h : RDs K ι H xs vs) : ∀ k : Nat, RDs K ι H (List.replicate k xs).flatten (List.replicate k vs).flatten
  | 0 => RDs.nil
  | k + 1 => by
    rw [List.replicate_succ, List.replicate_succ, List.flatten_cons, List.flatten_cons]
    exact h.append (RDs.rep h k)
theorem o_mul : OpR X (binaryOp .Mult) (rOp X.K dMul) := by
  refine OpR.imp (OpR.or op_mul op_rep) fun a b H Q hh => ?_
  obtain ⟨ι, S, x, y, rs, rx, ry, hh⟩ := hh
  unfold dMul at hh
  split at hh
  · rename_i i j
    split at hh
    · rename_i hc
      simp only [RD] at rx ry
      refine .inl ⟨i, j, rx, ry, ?_, PV.ret hh rs (by simp only [RD])⟩
      unfold cMul at hc
      rw [Bool.or_eq_true, Bool.and_eq_true, Bool.and_eq_true] at hc
      rcases hc with hc | hc
      · exact .inl ⟨of_decide_eq_true hc.1, of_decide_eq_true hc.2⟩
      · exact .inr ⟨of_decide_eq_true hc.1, of_decide_eq_true hc.2⟩
    · exact hh.elim
  · rename_i n k
    split at hh
    · rename_i xs hn
      split at hh
      · rename_i hc
        rw [Bool.and_eq_true, Bool.and_eq_true] at hc
        obtain ⟨p, vs, rfl, _, hH, r⟩ := rs.lst hn rx
        simp only [RD] at ry
        exact .inr ⟨p, k, vs, rfl, ry, hH, of_decide_eq_true hc.1.1, of_decide_eq_true hc.1.2, by rw [r.length]; exact of_decide_eq_true hc.2, new_lst rs (r.rep _) hh⟩
      · exact hh.elim
    · exact hh.elim
  · exact hh.elim
theorem u_neg : UnR X (unaryOp .USub) (rUn X.K dNeg) := by
  intro pins s σ H x v Q I r h
  refine un_neg pins s σ H x v Q I r ?_
  obtain ⟨ι, S, d, rs, rd, hh⟩ := h
  unfold dNeg at hh
  split at hh
  · rename_i i
    simp only [RD] at rd
    exact ⟨i, rd, PV.ret hh rs (by simp only [RD])⟩
  · exact hh.elim
theorem o_add : OpR X (binaryOp .Add) (rOp X.K dAdd) := by
  refine OpR.imp (OpR.or op_add (OpR.or op_add_ib (OpR.or op_add_str (OpR.or op_catA op_cat)))) fun a b H Q hh => ?_
  obtain ⟨ι, S, x, y, rs, rx, ry, hh⟩ := hh
  unfold dAdd at hh
  split at hh
  · rename_i i j
    simp only [RD] at rx ry
    exact .inl ⟨i, j, rx, ry, PV.ret hh rs (by simp only [RD])⟩
  · rename_i i j
    simp only [RD] at rx ry
    exact .inr (.inl ⟨i, j, rx, ry, PV.ret hh rs (by simp only [RD])⟩)
  · rename_i i j
    split at hh
    · rename_i hz
      simp only [RD] at rx ry
      exact .inr (.inr (.inl ⟨i, j, rx, ry, hz, PV.ret hh rs (by simp only [RD])⟩))
    · exact hh.elim
  · rename_i xs ys
    split at hh
    · rename_i hz
      simp only [RD] at rx ry
      obtain ⟨p, vs, rfl, q, r⟩ := rx
      obtain ⟨p2, us, rfl, q2, r2⟩ := ry
      refine .inr (.inr (.inr (.inl ⟨p, p2, vs, us, rfl, rfl, q, q2, by rw [r.length, r2.length]; exact hz, fun e => ?_, fun _ e => ?_, fun _ _ => new_tup rs (r.append r2) hh⟩)))
      · have e' := r.nil_iff.mp e
        subst e'
        exact PV.ret hh rs (by simp only [RD, List.nil_append]; exact ⟨p2, us, rfl, q2, r2⟩)
      · have e' := r2.nil_iff.mp e
        subst e'
        exact PV.ret hh rs (by simp only [RD, List.append_nil]; exact ⟨p, vs, rfl, q, r⟩)
    · exact hh.elim
  · rename_i n m
    split at hh
    · rename_i xs ys hn hm
      split at hh
      · rename_i hz
        obtain ⟨p, vs, rfl, _, hH, r⟩ := rs.lst hn rx
        obtain ⟨p2, us, rfl, _, hH2, r2⟩ := rs.lst hm ry
        exact .inr (.inr (.inr (.inr ⟨p, p2, vs, us, rfl, rfl, hH, hH2, by rw [r.length, r2.length]; exact hz, new_lst rs (r.append r2) hh⟩)))
      · exact hh.elim
    · exact hh.elim
  · exact hh.elim
end

/-! ### data to be compared, shown -/
mutual
def toPw (g : Nat → Option PyData) : D → Option PyData
  | .non => some .none
  | .bl b => some (.bool b)
  | .int i => some (.int i)
  | .str x => some (.str x)
  | .tup xs => (toPws g xs).map .tuple
  | .ref n => g n
  | .raw _ => none
def toPws (g : Nat → Option PyData) : List D → Option (List PyData)
  | [] => some []
  | d :: ds => (toPw g d).bind fun p => (toPws g ds).map fun ps => p :: ps
end
def keyP : Key → PyData
  | .inl i => .int i
  | .inr x => .str x
def gP : Nat → Sto → Nat → Option PyData
  | 0, _, _ => none
  | k + 1, S, n => match S[n]? with
    | some (.lst xs) => (toPws (gP k S) xs).map .list
    | some (.fz xs) => (toPws (gP k S) xs).map .list
    | some (.dct kvs) => (toPws (gP k S) (kvs.map (·.2))).map fun ps => .dict ((kvs.map fun kv => keyP kv.1).zip ps)
    | _ => none
def LEV : Nat := 30
def toP (S : Sto) (d : D) : Option PyData := toPw (gP LEV S) d
section
variable {X : Cx} {pins : List (Addr × Obj)} {σ : L2.St} {H : Hp} {s : Shared} {ι : List Addr} {S : Sto}
/-- what is read of data -/
def RdOk (h : Heap) (u : Value) (p : PyData) : Prop := ∃ as, Reads h u p as ∧ sysModules ∉ as
def RdsOk (h : Heap) (us : List Value) (ps : List PyData) : Prop := ∃ as, ReadsAll h us ps as ∧ sysModules ∉ as
theorem sysModules_lt (I : Inv X pins σ H s) : sysModules < s.heap.objs.size := I.big
mutual
theorem rd_reads (I : Inv X pins σ H s) {g : Nat → Option PyData} (hg : ∀ n p pd, ι[n]? = some p → g n = some pd → RdOk s.heap (.ref p) pd) :
    ∀ (d : D) {v : V} {u : Value} {pd : PyData}, RD X.K ι H d v → RelV v u → toPw g d = some pd → RdOk s.heap u pd
  | .non, v, u, pd, r, rv, e => by
    simp only [RD] at r; subst r; simp only [toPw, Option.some.injEq] at e; subst e; cases rv
    exact ⟨[], .none, by simp⟩
  | .bl b, v, u, pd, r, rv, e => by
    simp only [RD] at r; subst r; simp only [toPw, Option.some.injEq] at e; subst e; cases rv
    exact ⟨[], .bool b, by simp⟩
  | .int i, v, u, pd, r, rv, e => by
    simp only [RD] at r; subst r; simp only [toPw, Option.some.injEq] at e; subst e; obtain ⟨t, rfl⟩ := rv
    exact ⟨[], .int i t, by simp⟩
  | .str x, v, u, pd, r, rv, e => by
    simp only [RD] at r; subst r; simp only [toPw, Option.some.injEq] at e; subst e; obtain ⟨t, rfl⟩ := rv
    exact ⟨[], .str x t, by simp⟩
  | .tup xs, v, u, pd, r, rv, e => by
    simp only [RD] at r
    obtain ⟨p, vs, rfl, q, rr⟩ := r
    simp only [toPw] at e
    cases ep : toPws g xs with
    | none => rw [ep] at e; cases e
    | some ps =>
      rw [ep] at e
      simp only [Option.map_some, Option.some.injEq] at e
      subst e
      cases rv
      obtain ⟨its, rv, ⟨o, ho, hc, n, hd⟩, _⟩ := I.tuple q
      obtain ⟨as, ra, na⟩ := rds_reads I hg xs rr rv ep
      exact ⟨as, .tuple ho hc hd (by simpa using ra), na⟩
  | .ref n, v, u, pd, r, rv, e => by
    simp only [RD] at r
    obtain ⟨p, rfl, hp⟩ := r
    cases rv
    simp only [toPw] at e
    exact hg n p pd hp e
  | .raw w, v, u, pd, r, rv, e => by simp only [toPw] at e; cases e
theorem rds_reads (I : Inv X pins σ H s) {g : Nat → Option PyData} (hg : ∀ n p pd, ι[n]? = some p → g n = some pd → RdOk s.heap (.ref p) pd) :
    ∀ (ds : List D) {vs : List V} {us : List Value} {ps : List PyData}, RDs X.K ι H ds vs → Vals vs us → toPws g ds = some ps → RdsOk s.heap us ps
  | [], vs, us, ps, r, rv, e => by
    simp only [RDs] at r; subst r; simp only [toPws, Option.some.injEq] at e; subst e; cases rv
    exact ⟨[], .nil, by simp⟩
  | d :: ds, vs, us, ps, r, rv, e => by
    simp only [RDs] at r
    obtain ⟨v, vr, rfl, r1, r2⟩ := r
    simp only [toPws] at e
    cases e1 : toPw g d with
    | none => rw [e1] at e; cases e
    | some p1 =>
      rw [e1] at e
      simp only [Option.bind_some] at e
      cases e2 : toPws g ds with
      | none => rw [e2] at e; cases e
      | some p2 =>
        rw [e2] at e
        simp only [Option.map_some, Option.some.injEq] at e
        subst e
        cases rv with
        | cons a b =>
          obtain ⟨as, q1, n1⟩ := rd_reads I hg d r1 a e1
          obtain ⟨bs, q2, n2⟩ := rds_reads I hg ds r2 b e2
          exact ⟨as ++ bs, .cons q1 q2, by simp [n1, n2]⟩
end
theorem RKs.vals {κ : Type} {K : PySem.W.Frag} : ∀ {kvs : List (κ × D)} {vs : List (κ × V)}, RKs K ι H kvs vs → vs.map (·.1) = kvs.map (·.1) ∧ RDs K ι H (kvs.map (·.2)) (vs.map (·.2))
  | [], vs, h => by simp only [RKs] at h; subst h; exact ⟨rfl, RDs.nil⟩
  | (k, d) :: ds, vs, h => by
    simp only [RKs] at h
    obtain ⟨v, r, rfl, a, t⟩ := h
    obtain ⟨h1, h2⟩ := RKs.vals t
    exact ⟨by simp [h1], .cons a h2⟩
theorem reads_keys {h : Heap} : ∀ {ks : List Key} {us : List Value}, Paired (fun k u => keyIs k u = true) ks us → ReadsAll h us (ks.map keyP) []
  | [], _, .nil => .nil
  | k :: ks, u :: us, .cons h0 t => by
    have ih := reads_keys (h := h) t
    have : Reads h u (keyP k) [] := by
      rcases keyIs_shape h0 with ⟨i, t, rfl, rfl⟩ | ⟨x, t, rfl, rfl⟩
      · exact .int i t
      · exact .str x t
    exact .cons (as := []) this ih
theorem pairs_keys {P : Program} {w : World} : ∀ {es : List DictEntry} {kvs : List (Key × Value)}, Pairs (mixKind P w) es kvs → Paired (fun k u => keyIs k u = true) (kvs.map (·.1)) (es.map (·.key))
  | [], _, h => by cases h; exact .nil
  | e :: es, _, h => by
    cases h with
    | cons a b c => exact .cons a (pairs_keys c)
theorem pairs_vals {P : Program} {w : World} : ∀ {es : List DictEntry} {kvs : List (Key × Value)}, Pairs (mixKind P w) es kvs → es.map (·.val) = kvs.map (·.2)
  | [], _, h => by cases h; rfl
  | e :: es, _, h => by
    cases h with
    | cons a b c => simp [pairs_vals c, b]
theorem kv_vals : ∀ {vs : List (Key × V)} {us : List (Key × Value)}, KV vs us → Vals (vs.map (·.2)) (us.map (·.2))
  | [], _, h => by cases h; exact .nil
  | v :: vs, _, h => by
    cases h with
    | cons a b => exact .cons a.2 (kv_vals b)
theorem toPws_len {g : Nat → Option PyData} : ∀ {ds : List D} {ps : List PyData}, toPws g ds = some ps → ps.length = ds.length
  | [], ps, h => by simp only [toPws, Option.some.injEq] at h; subst h; rfl
  | d :: ds, ps, h => by
    simp only [toPws] at h
    cases e1 : toPw g d with
    | none => rw [e1] at h; cases h
    | some p =>
      rw [e1] at h
      simp only [Option.bind_some] at h
      cases e2 : toPws g ds with
      | none => rw [e2] at h; cases h
      | some q =>
        rw [e2] at h
        simp only [Option.map_some, Option.some.injEq] at h
        subst h
        rw [List.length_cons, List.length_cons, toPws_len e2]
/-- sys.modules, if it stands in the written part, is no list -/
def SysK (K : PySem.W.Frag) : Prop := ∀ o, K.lookup sysModules = some o → o.cls ≠ .type "list"
theorem noSys (k : SysK X.K) (rs : RS X.K ι H S) {p : Addr} {vs : List V} (q : SqL X.K H p vs) : p ≠ sysModules := fun z => by
  subst z
  obtain ⟨o, y, h⟩ := rs.sys
  rcases q with (q | ⟨o', q⟩) | ⟨o', _, _, hk, hc, _⟩
  · rw [h] at q; cases q
  · rw [h] at q; cases q
  · exact k o' hk hc
theorem gP_reads (sk : SysK X.K) (I : Inv X pins σ H s) (rs : RS X.K ι H S) : ∀ (k n : Nat) (p : Addr) (pd : PyData), ι[n]? = some p → gP k S n = some pd → RdOk s.heap (.ref p) pd
  | 0, _, _, _, _, e => by simp only [gP] at e; cases e
  | k + 1, n, p, pd, hp, e => by
    have ih := gP_reads sk I rs k
    have seqCase : ∀ xs, seqAt S n = some xs → (toPws (gP k S) xs).map PyData.list = some pd → RdOk s.heap (.ref p) pd := fun xs hx e => by
      cases ep : toPws (gP k S) xs with
      | none => rw [ep] at e; cases e
      | some ps =>
        rw [ep] at e
        simp only [Option.map_some, Option.some.injEq] at e
        subst e
        obtain ⟨p', vs, epp, _, q, r⟩ := rs.seq (v := .ref p) hx (by simp only [RD]; exact ⟨p, rfl, hp⟩)
        cases epp
        obtain ⟨its, rv, ⟨o, m, ho, hc, _, hd⟩, _⟩ := I.list q
        obtain ⟨as, ra, na⟩ := rds_reads I (fun n p pd => ih n p pd) xs r rv ep
        have hne : p ≠ sysModules := noSys sk rs q
        exact ⟨p :: as, .list ho hc hd (by simpa using ra), by simp [Ne.symm hne, na]⟩
    simp only [gP] at e
    split at e
    · rename_i xs hn
      exact seqCase xs (by unfold seqAt; rw [hn]) e
    · rename_i xs hn
      exact seqCase xs (by unfold seqAt; rw [hn]) e
    · rename_i kvs hn
      cases ep : toPws (gP k S) (kvs.map (·.2)) with
      | none => rw [ep] at e; cases e
      | some ps =>
        rw [ep] at e
        simp only [Option.map_some, Option.some.injEq] at e
        subst e
        obtain ⟨p', vs, epp, _, hH, r⟩ := rs.dct (v := .ref p) hn (by simp only [RD]; exact ⟨p, rfl, hp⟩)
        cases epp
        obtain ⟨_, hsys, us, kv, o, es, ep', ho, ex, hd, hk, pr, nd⟩ := dk_of I.hok hH
        obtain ⟨hk1, hk2⟩ := r.vals
        obtain ⟨as, ra, na⟩ := rds_reads I (fun n p pd => ih n p pd) _ hk2 (us := us.map (·.2)) (kv_vals kv) ep
        have hkeys : (kvs.map (·.1)) = us.map (·.1) := by rw [← hk1, kv.keys]
        have hne : p ≠ sysModules := fun z => by rw [z] at hsys; simp at hsys
        have hlp : (kvs.map fun kv => keyP kv.1).length = ps.length := by
          have h1 := toPws_len ep
          simp only [List.length_map] at h1 ⊢
          exact h1.symm
        refine ⟨p :: [] ++ as, .dict (as := []) (bs := as) ho ex.1 hd ?_ ?_, by simp [Ne.symm hne, na]⟩
        · rw [List.map_fst_zip (by rw [hlp]; exact Nat.le_refl _)]
          have := reads_keys (h := s.heap) (pairs_keys pr)
          rw [← hkeys] at this
          rw [List.map_map] at this
          exact this
        · rw [List.map_snd_zip (by rw [hlp]; exact Nat.le_refl _), pairs_vals pr]
          exact ra
    · cases e
theorem toP_reads (sk : SysK X.K) (I : Inv X pins σ H s) (rs : RS X.K ι H S) {d : D} {v : V} {u : Value} {pd : PyData} (r : RD X.K ι H d v) (rv : RelV v u) (e : toP S d = some pd) : RdOk s.heap u pd :=
  rd_reads I (fun n p pd => gP_reads sk I rs LEV n p pd) d r rv e
end

/-! ### comparisons -/
def flatD : D → Option V
  | .non => some .non
  | .bl b => some (.bl b)
  | .int i => some (.int i)
  | .str x => some (.str x)
  | _ => none
/-- == : none where it is not told -/
def eqD1 (x y : D) (S : Sto) : Option Bool := match flatD x, flatD y with
  | some a, some b => if scal a b = true then some (decide (a = b)) else none
  | _, _ => match toP S x, toP S y with
    | some p, some q => if (SeqAt.shaped p && SeqAt.shaped q) = true then some (PyData.eqv p q) else none
    | _, _ => none
/-- where one of the two is empty -/
def eq0 (x y : D) (S : Sto) : Option Bool := match x, y with
  | .tup xs, .tup ys => if (xs.isEmpty || ys.isEmpty) = true then some (xs.isEmpty && ys.isEmpty) else none
  | .ref n, .ref m => match seqAt S n, seqAt S m with
    | some xs, some ys => if (xs.isEmpty || ys.isEmpty) = true then some (xs.isEmpty && ys.isEmpty) else none
    | _, _ => none
  | _, _ => none
def eqD (x y : D) (S : Sto) : Option Bool := match eq0 x y S with
  | some b => some b
  | none => eqD1 x y S
def dEq : DOp := fun x y S => (eqD x y S).map fun b => (.bl b, S)
def dNe : DOp := fun x y S => (eqD x y S).map fun b => (.bl (!b), S)
section
variable {X : Cx}
theorem flat_rd {K : PySem.W.Frag} {ι : List Addr} {H : Hp} {d : D} {v w : V} (h : flatD d = some w) (r : RD K ι H d v) : v = w := by
  cases d <;> simp only [flatD, Option.some.injEq] at h <;> first | (simp only [RD] at r; rw [r, h]) | cases h
/-- two data with their Python values -/
theorem eq_cases {pins : List (Addr × Obj)} {σ : L2.St} {H : Hp} {s : Shared} {ι : List Addr} {S : Sto} {x y : D} {a b : V} {v u : Value} {k : Bool} (sk : SysK X.K) (I : Inv X pins σ H s) (rs : RS X.K ι H S)
    (rx : RD X.K ι H x a) (ry : RD X.K ι H y b) (ra : RelV a v) (rb : RelV b u) (h : eqD1 x y S = some k) :
    (scal a b = true ∧ k = decide (a = b)) ∨ ∃ p q as bs, Reads s.heap v p as ∧ Reads s.heap u q bs ∧ SeqAt.shaped p = true ∧ SeqAt.shaped q = true ∧ k = PyData.eqv p q := by
  unfold eqD1 at h
  split at h
  · rename_i a' b' ea eb
    split at h
    · rename_i hs
      have e1 := flat_rd ea rx
      have e2 := flat_rd eb ry
      subst e1; subst e2
      exact .inl ⟨hs, (Option.some.inj h).symm⟩
    · cases h
  · split at h
    · rename_i p q ep eq
      split at h
      · rename_i hs
        rw [Bool.and_eq_true] at hs
        obtain ⟨as, r1, _⟩ := toP_reads sk I rs rx ra ep
        obtain ⟨bs, r2, _⟩ := toP_reads sk I rs ry rb eq
        exact .inr ⟨p, q, as, bs, r1, r2, hs.1, hs.2, (Option.some.inj h).symm⟩
      · cases h
    · cases h
theorem all_vac {e : Nat → Bool} {a b : Nat} (h : a = 0 ∨ b = 0) : ((List.range (min a b)).all e && a == b) = (decide (a = 0) && decide (b = 0)) := by
  rcases h with rfl | rfl
  · cases b <;> simp
  · cases a <;> simp
theorem emp_of {K : PySem.W.Frag} {ι : List Addr} {H : Hp} {xs : List D} {vs : List V} {its : List Value} (r : RDs K ι H xs vs) (rv : Vals vs its) : xs.isEmpty = decide (its.toArray.size = 0) := by
  rw [← r.isEmpty, List.size_toArray, ← rv.length]
  cases vs <;> simp
theorem eq0_rc {pins : List (Addr × Obj)} {σ : L2.St} {H : Hp} {s : Shared} {ι : List Addr} {S : Sto} {x y : D} {a b : V} {v u : Value} {k : Bool} (hu : X.A.units + 64 < cLine) (I : Inv X pins σ H s) (rs : RS X.K ι H S)
    (rx : RD X.K ι H x a) (ry : RD X.K ι H y b) (ra : RelV a v) (rb : RelV b u) (h : eq0 x y S = some k) : SeqAt.RcAt X.A s v u k ∧ SeqAt.RcNeAt X.A s v u (!k) := by
  have hu' : X.A.units < cLine := by omega
  unfold eq0 at h
  split at h
  · rename_i xs ys
    split at h
    · rename_i he
      cases h
      simp only [RD] at rx ry
      obtain ⟨p, vs, rfl, q, r⟩ := rx
      obtain ⟨p2, us, rfl, q2, r2⟩ := ry
      cases ra; cases rb
      obtain ⟨its, rv, hl, _⟩ := I.tuple q
      obtain ⟨its2, rv2, hl2, _⟩ := I.tuple q2
      rw [emp_of r rv, emp_of r2 rv2] at he ⊢
      have hz : its.toArray.size = 0 ∨ its2.toArray.size = 0 := by simpa using he
      rw [← all_vac (e := fun _ => true) hz]
      refine ⟨SeqAt.RcAt.tuples hl hl2 hu' fun j h1 h2 => ?_, SeqAt.RcNeAt.tuples hl hl2 hu' fun j h1 h2 => ?_⟩ <;> omega
    · cases h
  · rename_i n m
    split at h
    · rename_i xs ys hn hm
      split at h
      · rename_i he
        cases h
        obtain ⟨p, vs, rfl, _, q, r⟩ := rs.seq hn rx
        obtain ⟨p2, us, rfl, _, q2, r2⟩ := rs.seq hm ry
        cases ra; cases rb
        obtain ⟨its, rv, hl, _⟩ := I.list q
        obtain ⟨its2, rv2, hl2, _⟩ := I.list q2
        rw [emp_of r rv, emp_of r2 rv2] at he ⊢
        have hz : its.toArray.size = 0 ∨ its2.toArray.size = 0 := by simpa using he
        by_cases hsz : its.toArray.size = its2.toArray.size
        · have e0 : its.toArray.size = 0 := by omega
          have e1 : its2.toArray.size = 0 := by omega
          have ea : (decide (its.toArray.size = 0) && decide (its2.toArray.size = 0)) = (List.range its.toArray.size).all (fun _ => true) := by rw [e0, e1]; rfl
          rw [ea]
          refine ⟨SeqAt.RcAt.lists hl.isList hl2.isList hsz hu' fun j h1 h2 => ?_, SeqAt.RcNeAt.lists hl.isList hl2.isList hsz hu' fun j h1 h2 => ?_⟩ <;> omega
        · have ea : (decide (its.toArray.size = 0) && decide (its2.toArray.size = 0)) = false := by
            rcases hz with z | z
            · rw [decide_eq_false (p := its2.toArray.size = 0) (by omega), Bool.and_false]
            · rw [decide_eq_false (p := its.toArray.size = 0) (by omega), Bool.false_and]
          rw [ea]
          exact ⟨SeqAt.RcAt.lists_lengths hl.isList hl2.isList (by simpa using hsz) hu', SeqAt.RcNeAt.lists_lengths hl.isList hl2.isList (by simpa using hsz) hu'⟩
      · cases h
    · cases h
  · cases h
theorem o_eq (hu : X.A.units + 64 < cLine) (sk : SysK X.K) : OpR X (compareOp .Eq) (rOp X.K dEq) := by
  intro pins s σ H a b v u Q I ra rb h
  obtain ⟨ι, S, x, y, rs, rx, ry, hh⟩ := h
  unfold dEq at hh
  cases hk : eqD x y S with
  | none => rw [hk] at hh; exact hh.elim
  | some k =>
    rw [hk] at hh
    have q : Q (.bl k) H := PV.ret hh rs (by simp only [RD])
    unfold eqD at hk
    split at hk
    · rename_i k' h0
      cases hk
      exact (eq0_rc hu I rs rx ry ra rb h0).1 _ _ _ _ ⟨.bl _, H, I, rfl, q⟩
    rcases eq_cases sk I rs rx ry ra rb hk with ⟨hs, e⟩ | ⟨p, p', as, bs, r1, r2, s1, s2, e⟩
    · exact op_eq pins s σ H a b v u Q I ra rb ⟨hs, by rw [← e]; exact q⟩
    · exact SeqAt.compareEq_shaped r1 r2 s1 s2 hu ⟨.bl k, H, I, by rw [e]; rfl, q⟩
theorem o_ne (hu : X.A.units + 64 < cLine) (sk : SysK X.K) : OpR X (compareOp .NotEq) (rOp X.K dNe) := by
  intro pins s σ H a b v u Q I ra rb h
  obtain ⟨ι, S, x, y, rs, rx, ry, hh⟩ := h
  unfold dNe at hh
  cases hk : eqD x y S with
  | none => rw [hk] at hh; exact hh.elim
  | some k =>
    rw [hk] at hh
    have q : Q (.bl (!k)) H := PV.ret hh rs (by simp only [RD])
    unfold eqD at hk
    split at hk
    · rename_i k' h0
      cases hk
      exact (eq0_rc hu I rs rx ry ra rb h0).2 _ _ _ _ ⟨.bl _, H, I, rfl, q⟩
    rcases eq_cases sk I rs rx ry ra rb hk with ⟨hs, e⟩ | ⟨p, p', as, bs, r1, r2, s1, s2, e⟩
    · exact op_ne pins s σ H a b v u Q I ra rb ⟨hs, by rw [← e]; exact q⟩
    · exact SeqAt.compareNe_shaped r1 r2 s1 s2 hu ⟨.bl (!k), H, I, by rw [e]; rfl, q⟩
end
def strLt (a b : Str) : Bool := decide (a.cps.toList < b.cps.toList)
def dCmp (f : Int → Int → Bool) (g : Str → Str → Bool) : DOp := fun x y S => match x, y with
  | .int i, .int j => some (.bl (f i j), S)
  | .str a, .str b => some (.bl (g a b), S)
  | _, _ => none
def dLt : DOp := dCmp (fun i j => decide (i < j)) fun a b => strLt a b
def dLe : DOp := dCmp (fun i j => decide (i ≤ j)) fun a b => !strLt b a
def dGt : DOp := dCmp (fun i j => decide (j < i)) fun a b => strLt b a
def dGe : DOp := dCmp (fun i j => decide (j ≤ i)) fun a b => !strLt a b
section
variable {X : Cx}
theorem o_cmp {f : Value → Value → Sem Value} {g : Int → Int → Bool} {g' : Str → Str → Bool} (h1 : OpR X f (rI0 fun i j => .bl (g i j))) (h2 : OpR X f (fun x y H Q => ∃ i j, x = .str i ∧ y = .str j ∧ Q (.bl (g' i j)) H)) : OpR X f (rOp X.K (dCmp g g')) := by
  refine OpR.imp (OpR.or h1 h2) fun a b H Q hh => ?_
  obtain ⟨ι, S, x, y, rs, rx, ry, hh⟩ := hh
  unfold dCmp at hh
  split at hh
  · rename_i i j
    simp only [RD] at rx ry
    exact .inl ⟨i, j, rx, ry, PV.ret hh rs (by simp only [RD])⟩
  · rename_i i j
    simp only [RD] at rx ry
    exact .inr ⟨i, j, rx, ry, PV.ret hh rs (by simp only [RD])⟩
  · exact hh.elim
theorem o_lt : OpR X (compareOp .Lt) (rOp X.K dLt) := o_cmp op_lt op_lt_str
theorem o_le : OpR X (compareOp .LtE) (rOp X.K dLe) := o_cmp op_le op_le_str
theorem o_gt : OpR X (compareOp .Gt) (rOp X.K dGt) := o_cmp op_gt op_gt_str
theorem o_ge : OpR X (compareOp .GtE) (rOp X.K dGe) := o_cmp op_ge op_ge_str
end
/-- is None, is not None -/
def isNon : D → Option Bool
  | .non => some true
  | .raw _ => none
  | _ => some false
def dIs : DOp := fun x y S => match y with
  | .non => (isNon x).map fun b => (.bl b, S)
  | _ => none
def dIsNot : DOp := fun x y S => match y with
  | .non => (isNon x).map fun b => (.bl (!b), S)
  | _ => none
section
variable {X : Cx}
theorem isNon_ok {K : PySem.W.Frag} {ι : List Addr} {H : Hp} {d : D} {v : V} {k : Bool} (h : isNon d = some k) (r : RD K ι H d v) : decide (v = .non) = k := by
  cases d with
  | non => simp only [RD] at r; simp only [isNon, Option.some.injEq] at h; subst r; subst h; rfl
  | raw w => simp only [isNon] at h; cases h
  | tup xs => simp only [RD] at r; obtain ⟨p, vs, rfl, _⟩ := r; simp only [isNon, Option.some.injEq] at h; subst h; rfl
  | ref n => simp only [RD] at r; obtain ⟨p, rfl, _⟩ := r; simp only [isNon, Option.some.injEq] at h; subst h; rfl
  | _ => simp only [RD] at r; simp only [isNon, Option.some.injEq] at h; subst r; subst h; rfl
theorem o_is : OpR X (compareOp .Is) (rOp X.K dIs) := by
  refine OpR.imp op_isN fun a b H Q hh => ?_
  obtain ⟨ι, S, x, y, rs, rx, ry, hh⟩ := hh
  unfold dIs at hh
  split at hh
  · simp only [RD] at ry
    cases hk : isNon x with
    | none => rw [hk] at hh; exact hh.elim
    | some k => rw [hk] at hh; exact ⟨ry, by rw [isNon_ok hk rx]; exact PV.ret hh rs (by simp only [RD])⟩
  · exact hh.elim
theorem o_isnot : OpR X (compareOp .IsNot) (rOp X.K dIsNot) := by
  refine OpR.imp op_notN fun a b H Q hh => ?_
  obtain ⟨ι, S, x, y, rs, rx, ry, hh⟩ := hh
  unfold dIsNot at hh
  split at hh
  · simp only [RD] at ry
    cases hk : isNon x with
    | none => rw [hk] at hh; exact hh.elim
    | some k => rw [hk] at hh; exact ⟨ry, by rw [isNon_ok hk rx]; exact PV.ret hh rs (by simp only [RD])⟩
  · exact hh.elim
end

/-! ### tables -/
section
variable {κ : Type} [DecidableEq κ]
def valD (kvs : List (κ × D)) (k : κ) : Option D := (kvs.find? fun kv => decide (kv.1 = k)).map (·.2)
def putD (kvs : List (κ × D)) (k : κ) (v : D) : List (κ × D) :=
  if (kvs.any fun kv => decide (kv.1 = k)) = true then kvs.map (fun kv => if kv.1 = k then (kv.1, v) else kv) else kvs ++ [(k, v)]
variable {K : PySem.W.Frag} {ι : List Addr} {H : Hp}
theorem RKs.val : ∀ {kvs : List (κ × D)} {vs : List (κ × V)} (k : κ), RKs K ι H kvs vs → match valD kvs k, valV vs k with
    | some d, some v => RD K ι H d v
    | none, none => True
    | _, _ => False
  | [], vs, k, h => by simp only [RKs] at h; subst h; simp [valD, valV]
  | (j, d) :: ds, vs, k, h => by
    simp only [RKs] at h
    obtain ⟨v, r, rfl, a, t⟩ := h
    by_cases e : j = k
    · simp [valD, valV, List.find?_cons, e, a]
    · have ih := RKs.val k t
      have e1 : valD ((j, d) :: ds) k = valD ds k := by simp [valD, List.find?_cons, e]
      have e2 : valV ((j, v) :: r) k = valV r k := by simp [valV, List.find?_cons, e]
      rw [e1, e2]
      exact ih
theorem RKs.any (p : κ → Bool) : ∀ {kvs : List (κ × D)} {vs : List (κ × V)}, RKs K ι H kvs vs → (vs.any fun kv => p kv.1) = kvs.any fun kv => p kv.1
  | [], vs, h => by simp only [RKs] at h; subst h; rfl
  | (j, d) :: ds, vs, h => by
    simp only [RKs] at h
    obtain ⟨v, r, rfl, a, t⟩ := h
    simp only [List.any_cons, RKs.any p t]
theorem RKs.repl (k : κ) {d : D} {v : V} (q : RD K ι H d v) : ∀ {kvs : List (κ × D)} {vs : List (κ × V)}, RKs K ι H kvs vs →
    RKs K ι H (kvs.map fun kv => if kv.1 = k then (kv.1, d) else kv) (vs.map fun kv => if kv.1 = k then (kv.1, v) else kv)
  | [], vs, h => by simp only [RKs] at h; subst h; simp only [List.map_nil, RKs]
  | (j, d0) :: ds, vs, h => by
    simp only [RKs] at h
    obtain ⟨v0, r, rfl, a, t⟩ := h
    simp only [List.map_cons]
    by_cases e : j = k
    · simp only [e, if_true, RKs]
      exact ⟨v, _, rfl, q, RKs.repl k q t⟩
    · simp only [e, if_false, RKs]
      exact ⟨v0, _, rfl, a, RKs.repl k q t⟩
theorem RKs.append {kvs es : List (κ × D)} {vs us : List (κ × V)} (h : RKs K ι H kvs vs) (q : RKs K ι H es us) : RKs K ι H (kvs ++ es) (vs ++ us) := by
  induction kvs generalizing vs with
  | nil => simp only [RKs] at h; subst h; exact q
  | cons kv kvs ih =>
    obtain ⟨k, d⟩ := kv
    simp only [RKs] at h
    obtain ⟨v, r, rfl, a, t⟩ := h
    simp only [List.cons_append, RKs]
    exact ⟨v, _, rfl, a, ih t⟩
theorem RKs.put (k : κ) {d : D} {v : V} (q : RD K ι H d v) {kvs : List (κ × D)} {vs : List (κ × V)} (h : RKs K ι H kvs vs) : RKs K ι H (putD kvs k d) (putK vs k v) := by
  unfold putD putK
  rw [h.any fun j => decide (j = k)]
  split
  · exact h.repl k q
  · exact h.append (by simp only [RKs]; exact ⟨v, [], rfl, q, rfl⟩)
end
def keyD : D → Option Key
  | .int i => some (.inl i)
  | .str x => some (.inr x)
  | _ => none
theorem keyD_rd {K : PySem.W.Frag} {ι : List Addr} {H : Hp} {d : D} {v : V} {k : Key} (h : keyD d = some k) (r : RD K ι H d v) : v = kV k := by
  cases d <;> simp only [keyD, Option.some.injEq] at h <;> first | (simp only [RD] at r; subst h; exact r) | cases h

/-! ### subscripts -/
def dIx : DOp := fun x y S => match x with
  | .tup xs => match y with
    | .int i => (atI xs i).map fun d => (d, S)
    | _ => none
  | .str z => match y with
    | .int i => if z.length ≤ sizeLine then (atI z.cps.toList i).map fun c => (.str ⟨#[c]⟩, S) else none
    | _ => none
  | .ref n => match S[n]? with
    | some (.dct kvs) => (keyD y).bind fun k => (valD kvs k).map fun d => (d, S)
    | _ => match y with
      | .int i => (seqAt S n).bind fun xs => (atI xs i).map fun d => (d, S)
      | _ => none
  | _ => none
section
variable {X : Cx} {W : WX} {a b : Expr} {ma mb : EM} {pos : Pos}
theorem RDs.atI {K : PySem.W.Frag} {ι : List Addr} {H : Hp} {xs : List D} {vs : List V} {i : Int} {d : D} (r : RDs K ι H xs vs) (h : atI xs i = some d) : ∃ v, L2.atI vs i = some v ∧ RD K ι H d v := by
  unfold L2.atI at h ⊢
  rw [r.length]
  cases e : ixN xs.length i with
  | none => rw [e] at h; cases h
  | some j =>
    rw [e] at h
    exact r.get h
theorem ix_seq' : IxR X (fun a b H Q => rOp X.K (fun x y S => match x with
    | .ref n => match S[n]? with
      | some (.dct _) => none
      | _ => dIx x y S
    | _ => dIx x y S) a b H Q) := by
  intro value slice pins s σ H a b v u Q I ra rb h hs
  refine ix_seq value slice pins s σ H a b v u Q I ra rb ?_ hs
  obtain ⟨ι, S, x, y, rs, rx, ry, hh⟩ := h
  cases x with
  | tup xs =>
    simp only [dIx] at hh
    split at hh
    · rename_i i
      cases e : atI xs i with
      | none => rw [e] at hh; exact hh.elim
      | some d =>
        rw [e] at hh
        simp only [RD] at rx ry
        obtain ⟨p, vs, rfl, q, r⟩ := rx
        obtain ⟨w, ew, rw'⟩ := r.atI e
        exact .inr (.inl ⟨p, vs, i, w, rfl, ry, q, ew, PV.ret hh rs rw'⟩)
    · exact hh.elim
  | str z =>
    simp only [dIx] at hh
    split at hh
    · rename_i i
      split at hh
      · rename_i hz
        cases e : atI z.cps.toList i with
        | none => rw [e] at hh; exact hh.elim
        | some c =>
          rw [e] at hh
          simp only [RD] at rx ry
          exact .inr (.inr ⟨z, i, c, rx, ry, hz, e, PV.ret hh rs (by simp only [RD])⟩)
      · exact hh.elim
    · exact hh.elim
  | ref n =>
    simp only [dIx] at hh
    split at hh
    · exact hh.elim
    · rename_i hnd
      split at hh
      · rename_i kvs ek
        exact absurd ek (hnd kvs)
      · split at hh
        · rename_i i
          cases e : seqAt S n with
          | none => rw [e] at hh; exact hh.elim
          | some xs =>
            rw [e] at hh
            simp only [Option.bind_some] at hh
            cases e2 : atI xs i with
            | none => rw [e2] at hh; exact hh.elim
            | some d =>
              rw [e2] at hh
              obtain ⟨p, vs, rfl, _, q, r⟩ := rs.seq e rx
              simp only [RD] at ry
              obtain ⟨w, ew, rw'⟩ := r.atI e2
              exact .inl ⟨p, vs, i, w, rfl, ry, q, ew, PV.ret hh rs rw'⟩
        · exact hh.elim
  | _ => exact hh.elim
theorem se_ix (hu : X.A.units + 1 < cLine) (ha : SE X W a ma) (hb : SE X W b mb) (hs : PlainIx b) : SE X W (.Subscript a b pos) (mBin dIx ma mb) := by
  refine PE.imp (PE.or (pe_ix ix_seq' ha hb hs) (pe_dget hu ha hb hs)) fun σ H Q h => ?_
  obtain ⟨ι, ρ, S, re, rs, h⟩ := h
  -- which one it is hangs on the values
  by_cases isD : ∃ x S1 y S2 n kvs, ma ρ S = .ok x S1 ∧ mb ρ S1 = .ok y S2 ∧ x = .ref n ∧ S2[n]? = some (.dct kvs)
  · refine .inr ?_
    obtain ⟨x, S1, y, S2, n, kvs, e1, e2, e3, e4⟩ := isD
    subst e3
    simp only [mBin, e1, e2, bind_ok] at h
    refine ⟨ι, ρ, S, re, rs, ?_⟩
    rw [e1]
    refine fun ι1 v H1 x1 rs1 r1 => ⟨ι1, ρ, S1, re.mono x1, rs1, ?_⟩
    rw [e2]
    refine fun ι2 u H2 x2 rs2 r2 => ?_
    simp only [dIx, e4] at h
    cases ek : keyD y with
    | none => rw [ek] at h; exact h.elim
    | some k =>
      rw [ek] at h
      simp only [Option.bind_some] at h
      cases ev : valD kvs k with
      | none => rw [ev] at h; exact h.elim
      | some d =>
        rw [ev] at h
        obtain ⟨p, vs, rfl, _, hH, r⟩ := rs2.dct e4 (RD.mono x2 r1)
        have eu := keyD_rd ek r2
        subst eu
        have q := r.val k
        rw [ev] at q
        cases ew : valV vs k with
        | none => rw [ew] at q; exact q.elim
        | some w =>
          rw [ew] at q
          exact ⟨p, w, rfl, by rw [← ew]; exact DGet.k hH, h ι2 w H2 (x1.trans x2) rs2 q⟩
  · refine .inl ?_
    refine bin_go ⟨ι, ρ, S, re, rs, ?_⟩
    simp only [mBin] at h ⊢
    cases e1 : ma ρ S with
    | stk => rw [e1] at h; exact h
    | ex e S1 => rw [e1] at h; exact h
    | ok x S1 =>
      rw [e1] at h
      simp only [bind_ok] at h ⊢
      cases e2 : mb ρ S1 with
      | stk => rw [e2] at h; exact h
      | ex e S1 => rw [e2] at h; exact h
      | ok y S2 =>
        rw [e2] at h
        simp only [bind_ok] at h ⊢
        cases x with
        | ref n =>
          dsimp only
          split
          · rename_i kvs ek
            exact absurd ⟨_, _, _, _, n, kvs, e1, e2, rfl, ek⟩ isD
          · exact h
        | _ => exact h
end

/-! ### slices -/
def cutD (xs : List D) (lo hi : Option Int) : List D := (xs.drop (HT.sIx xs.length 0 lo)).take (HT.sIx xs.length xs.length hi - HT.sIx xs.length 0 lo)
abbrev OM := Ev → Sto → R (Option Int)
abbrev rO : Rel (Option Int) (Option Int) := fun _ _ a b => b = a
abbrev SO (X : Cx) (W : WX) (e : Option Expr) (m : OM) : Prop := L2.PO X e (tG X.K rO W m)
def oNone : OM := fun _ S => .ok none S
def oSome (m : EM) : OM := fun ρ S => (m ρ S).bind fun d S1 => match d with
  | .int i => .ok (some i) S1
  | _ => .stk
def dSl (x : D) (lo hi : Option Int) (S : Sto) : Option (D × Sto) := match x with
  | .tup xs => some (.tup (cutD xs lo hi), S)
  | .str z => if z.length ≤ sizeLine then some (.str (cutS z lo hi), S) else none
  | .ref n => (seqAt S n).map fun xs => (.ref S.length, S ++ [.lst (cutD xs lo hi)])
  | _ => none
def mSl (m : EM) (l u : OM) : EM := fun ρ S => (m ρ S).bind fun x S1 => (l ρ S1).bind fun lo S2 => (u ρ S2).bind fun hi S3 => ofO (dSl x lo hi S3)
section
variable {X : Cx} {W : WX} {e : Expr} {m : EM} {lo hi : Option Expr} {l u : OM} {pos p2 : Pos}
theorem so_none : SO X W none oNone := ⟨fun pins s σ H Q I h => po_none.run pins s σ H Q I (by obtain ⟨ι, ρ, S, re, rs, h⟩ := h; exact h.ret rs rfl)⟩
theorem so_some (he : SE X W e m) : SO X W (some e) (oSome m) := ⟨fun pins s σ H Q I h => (po_some he).run pins s σ H Q I (by
  obtain ⟨ι, ρ, S, re, rs, h⟩ := h
  refine ⟨ι, ρ, S, re, rs, PR.imp (fun v H1 hh => ?_) (PR.bind (rel := rD X.K) h)⟩
  obtain ⟨ι1, d, S1, x1, rs1, r1, h1⟩ := hh
  split at h1
  · rename_i i
    simp only [RD] at r1
    exact ⟨i, r1, h1.ret rs1 rfl⟩
  · exact h1.elim)⟩
theorem RDs.cut {K : PySem.W.Frag} {ι : List Addr} {H : Hp} {xs : List D} {vs : List V} (r : RDs K ι H xs vs) (lo hi : Option Int) : RDs K ι H (cutD xs lo hi) (cutV vs lo hi) := by
  unfold cutD cutV
  rw [r.length]
  exact (r.drop _).take _
theorem cutD_whole {xs : List D} {lo hi : Option Int} (h : HT.sIx xs.length 0 lo = 0 ∧ HT.sIx xs.length xs.length hi = xs.length) : cutD xs lo hi = xs := by
  unfold cutD
  rw [h.1, h.2]
  simp
theorem se_slice (he : SE X W e m) (hl : SO X W lo l) (hh : SO X W hi u) : SE X W (.Subscript e (.Slice lo hi none p2) pos) (mSl m l u) := by
  refine PE.imp (pe_slice (SlR.or sl_tupA (SlR.or sl_str sl_list)) he hl hh) fun σ H Q h => ?_
  obtain ⟨ι, ρ, S, re, rs, h⟩ := h
  refine ⟨ι, ρ, S, re, rs, PR.imp (fun v H1 hh => ?_) (PR.bind (rel := rD X.K) h)⟩
  obtain ⟨ι1, d, S1, x1, rs1, r1, h1⟩ := hh
  refine ⟨ι1, ρ, S1, re.mono x1, rs1, PR.imp (fun o1 H2 hh => ?_) (PR.bind (rel := rO) h1)⟩
  obtain ⟨ι2, o1', S2, x2, rs2, r2, h2⟩ := hh
  cases r2
  refine ⟨ι2, ρ, S2, (re.mono x1).mono x2, rs2, PR.imp (fun o2 H3 hh => ?_) (PR.bind (rel := rO) h2)⟩
  obtain ⟨ι3, o2', S3, x3, rs3, r3, h3⟩ := hh
  cases r3
  have rd : RD X.K ι3 H3 d v := RD.mono (x2.trans x3) r1
  have h4 := PV.of h3
  unfold dSl at h4
  split at h4
  · rename_i xs
    simp only [RD] at rd
    obtain ⟨p, vs, rfl, q, r⟩ := rd
    refine .inl ⟨p, vs, rfl, q, fun w => ?_, fun _ => new_tup rs3 (r.cut _ _) h4⟩
    rw [r.length] at w
    rw [cutD_whole w] at h4
    exact PV.ret h4 rs3 (by simp only [RD]; exact ⟨p, vs, rfl, q, r⟩)
  · rename_i z
    split at h4
    · rename_i hz
      simp only [RD] at rd
      exact .inr (.inl ⟨z, rd, hz, PV.ret h4 rs3 (by simp only [RD])⟩)
    · exact h4.elim
  · rename_i n
    cases en : seqAt S3 n with
    | none => rw [en] at h4; exact h4.elim
    | some xs =>
      rw [en] at h4
      obtain ⟨p, vs, rfl, _, q, r⟩ := rs3.seq en rd
      exact .inr (.inr ⟨p, vs, rfl, q, new_lst rs3 (r.cut _ _) h4⟩)
  · exact h4.elim
end

/-! ### stores into lists and dicts -/
def dSet (x i v : D) (S : Sto) : Option Sto := match x with
  | .ref n => match S[n]? with
    | some (.lst xs) => match i with
      | .int k => (ixN xs.length k).map fun j => S.set n (.lst (xs.set j v))
      | _ => none
    | some (.dct kvs) => (keyD i).bind fun k => if kvs.length < sizeLine then some (S.set n (.dct (putD kvs k v))) else none
    | _ => none
  | _ => none
/-- o[i] = e: e first -/
def sSub (mo mi me : EM) : SM := fun ρ S => (me ρ S).bindS ρ fun v S1 => (mo ρ S1).bindS ρ fun o S2 => (mi ρ S2).bindS ρ fun i S3 => match dSet o i v S3 with
  | some S4 => .nx ρ S4
  | none => .stk
section
variable {X : Cx} {W : WX} {o i e : Expr} {mo mi me : EM} {pos tpos : Pos}
theorem PSet.or {t t' : TSet} (h : PSet X t) (h' : PSet X t') : PSet X (fun o i v H Q => t o i v H Q ∨ t' o i v H Q) :=
  fun pins s σ H o i v ov iv u Q I r1 r2 r3 w => w.elim (h pins s σ H o i v ov iv u Q I r1 r2 r3) (h' pins s σ H o i v ov iv u Q I r1 r2 r3)
theorem ss_sub (hu : X.A.units + 1 < cLine) (ho : SE X W o mo) (hi : SE X W i mi) (he : SE X W e me)
    (ha : ∀ v, assign (.Subscript o i tpos) X.env v = (do
      let ov ← holding [v] (eval o X.env)
      let iv ← holding [v, ov] (eval i X.env)
      standAt tpos
      holding [v, ov, iv] (setItem ov iv v)
      release [v, ov, iv] []) := by intro _; rfl)
    (hs : swapsWithSole [.Subscript o i tpos] e pos.line X.env = pure false := by rfl) (hw : swappedStores [.Subscript o i tpos] e X.env = pure none := by rfl)
    (h1 : (assignEach [.Subscript o i tpos] X.env).map (·.2) = [assign (.Subscript o i tpos) X.env] := by rfl) : SS X W (.Assign [.Subscript o i tpos] e pos) (sSub mo mi me) := by
  refine PS.imp (ps_asg he (pg_sub ho hi (PSet.or set_list (set_dict hu)) ha) hs hw h1) fun D σ H h => ?_
  obtain ⟨ι, ρ, S, re, rs, h⟩ := h
  refine ⟨ι, ρ, S, re, rs, PR.imp (fun v H1 hh => ?_) (PR.bindS (rel := rD X.K) re h)⟩
  obtain ⟨ι1, d1, S1, x1, rs1, r1, h1⟩ := hh
  refine ⟨ι1, ρ, S1, re.mono x1, rs1, PR.imp (fun ov H2 hh => ?_) (PR.bindS (rel := rD X.K) (re.mono x1) h1)⟩
  obtain ⟨ι2, d2, S2, x2, rs2, r2, h2⟩ := hh
  refine ⟨ι2, ρ, S2, (re.mono x1).mono x2, rs2, PR.imp (fun iv H3 hh => ?_) (PR.bindS (rel := rD X.K) ((re.mono x1).mono x2) h2)⟩
  obtain ⟨ι3, d3, S3, x3, rs3, r3, h3⟩ := hh
  have re3 := ((re.mono x1).mono x2).mono x3
  have rv := RD.mono (x2.trans x3) r1
  have ro := RD.mono x3 r2
  cases hd : dSet d2 d3 d1 S3 with
  | none => simp only [hd] at h3; exact h3.elim
  | some S4 =>
    simp only [hd] at h3
    unfold dSet at hd
    split at hd
    · rename_i n
      split at hd
      · rename_i xs hn
        split at hd
        · rename_i k
          cases ej : ixN xs.length k with
          | none => rw [ej] at hd; cases hd
          | some j =>
            rw [ej] at hd
            simp only [Option.map_some, Option.some.injEq] at hd
            subst hd
            obtain ⟨p, vs, rfl, hp, hH, r⟩ := rs3.lst hn ro
            simp only [rD, RD] at r3
            have xp : Ext X.K ι3 H3 ι3 (upd H3 p (.lst (vs.set j v))) := .put hH (fun _ z => by cases z) (fun _ _ z => by cases z)
            refine .inl ⟨p, vs, k, j, rfl, r3, hH, by rw [r.length]; exact ej, h3 ι3 σ _ xp ?_ (re3.mono xp)⟩
            exact rs3.put hn hp rfl rfl ⟨vs.set j v, upd_same, RDs.mono xp (r.set j rv)⟩
        · cases hd
      · rename_i kvs hn
        cases ek : keyD d3 with
        | none => rw [ek] at hd; cases hd
        | some k =>
          rw [ek] at hd
          simp only [Option.bind_some] at hd
          split at hd
          · rename_i hz
            simp only [Option.some.injEq] at hd
            subst hd
            obtain ⟨p, vs, rfl, hp, hH, r⟩ := rs3.dct hn ro
            have ei := keyD_rd ek r3
            subst ei
            have xp : Ext X.K ι3 H3 ι3 (upd H3 p (.dK (putK vs k v))) := .put hH (fun _ z => by cases z) (fun _ _ z => by cases z)
            refine .inr ⟨p, _, rfl, DPut.k hH (by rw [r.length]; exact hz), h3 ι3 σ _ xp ?_ (re3.mono xp)⟩
            exact rs3.put hn hp rfl rfl ⟨putK vs k v, upd_same, RKs.mono xp (r.put k rv)⟩
          · cases hd
      · cases hd
    · cases hd
end
end DL

/-! the D-layer: defs and their calls -/
namespace DL
open PySem L2

/-- room for k calls, and no object is being shown -/
structure GR (k : Nat) (A : Around) : Prop where
  room : Room k A
  free : A.guards = some []
theorem GR.mono {j k : Nat} {A : Around} (r : GR k A) (h : j ≤ k) : GR j A := ⟨r.room.mono h, r.free⟩
theorem GR.deeper {k : Nat} {A : Around} (r : GR (k + 1) A) (env : Env) : GR k (A.deeper env) := ⟨r.room.deeper env, r.free⟩
theorem GR.u64 {k : Nat} {A : Around} (r : GR k A) : A.units + 64 < cLine := r.room.units
theorem GR.u1 {k : Nat} {A : Around} (r : GR k A) : A.units + 1 < cLine := by have := r.room.un; omega
theorem GR.u100 {k : Nat} {A : Around} (r : GR k A) : A.units + 100 < cLine := by have := r.room.un; omega

/-- what a def promises where nothing is being shown -/
structure FnG (P : Program) (w : World) (K : PySem.W.Frag) (mg : Str → Option Value) (base : Heap) (k : Nat) (f : Addr) (fd : FuncData) (ps : List Str) (sp : Sp) : Prop where
  len : ∀ vs H Q E, sp vs H Q E → vs.length = ps.length
  go : ∀ (A : Around) (around : List Env) (st : Shared) (H : Hp) (given : Args) (us : List Value) (vs : List V) (Q : VK) (E : XK), GR k A → Env0 P w K mg base A around st H →
    BindsTo st fd given (ps.zip us) → Vals vs us → sp vs H Q E → codeAny (model P w) A (.call (.ref f) given) (CR (L2.CX P w) around P w H st Q E) st
section
variable {P : Program} {w : World} {K : PySem.W.Frag} {mg : Str → Option Value} {base : Heap} {k : Nat} {f : Addr} {fd : FuncData} {ps N : List Str} {sp sp' : Sp}
theorem FnG.mono {j : Nat} (F : FnG P w K mg base j f fd ps sp) (h : j ≤ k) : FnG P w K mg base k f fd ps sp :=
  ⟨F.len, fun A o st H g us vs Q E gr => F.go A o st H g us vs Q E (gr.mono h)⟩
theorem FnG.imp (F : FnG P w K mg base k f fd ps sp) (h : ∀ vs H Q E, sp' vs H Q E → sp vs H Q E) : FnG P w K mg base k f fd ps sp' :=
  ⟨fun vs H Q E q => F.len vs H Q E (h _ _ _ _ q), fun A o st H g us vs Q E gr e0 b r q => F.go A o st H g us vs Q E gr e0 b r (h _ _ _ _ q)⟩
theorem FnG.of {x qual : Str} {st : Stmt} (F : Fun K x qual st f fd) (S : FnScope N ps (defScope st)) (len : ∀ vs H Q E, sp vs H Q E → vs.length = ps.length)
    (body : ∀ (cdv : Value) (A : Around) (around : List Env) (s : Shared) (H : Hp) (vs : List V) (Q : VK) (E : XK), GR k (A.deeper (PyProof.Rows.envOfC qual (defScope st) s.heap.objs.size f cdv)) → sp vs H Q E →
      ∃ t, PSs (cxOf (L2.CX P w) P w K mg base N qual (defScope st) f cdv A around s H E) (defBody st) t ∧ t { nx := fun _ H' => Q .non H', rt := Q } (L2.start N vs) H) :
    FnG P w K mg base (k + 1) f fd ps sp := by
  obtain ⟨oc, od, kV, doc, pm, an, cdv, ct, osl, hfd, look, code⟩ := F.ex
  subst hfd
  constructor
  · exact len
  intro A around s H given us vs Q E gr e0 binds rel hsp
  have before : ∀ b o, base.get? b = some o → s.heap.get? b = some o := fun b o e => (e0.bs b o e).1
  have KX := e0.mod.kin.keeps before
  have kinds : ∀ y ∈ ps.zip us, (defScope st).names.lookup y.1 = some .local ∨
      ((defScope st).names.lookup y.1 = some .cell ∧ ((cellsFrom (s.heap.objs.size + 1) (defScope st).names []).lookup y.1).isSome = true) := by
    rintro ⟨n, v⟩ hm
    cases S.par n (List.of_mem_zip hm).1 with
    | inl z => exact .inl z
    | inr z => exact .inr ⟨z, PySem.W.cellsFrom_some _ _ _ (.inl z)⟩
  apply codeAny_call_function gr.room.depth (KX _ _ look) rfl S.co S.gen rfl (PySem.W.codeRec_of KX code)
  apply binds
  apply wpAny_newFunctionEnv_cells S.kind kinds
  intro env he s1 ic
  subst he
  refine ⟨(e0.mod.nolimit.keeps before).keeps ic.toInCall.keep, codeAny_func ?_⟩
  obtain ⟨t, ht, hq⟩ := body cdv A around s H vs Q E (gr.deeper _) hsp
  have inv := inv_start (CX := L2.CX P w) (E := E) S gr.room.hd e0 (len _ _ _ _ hsp) rel ic
  have ends : ∀ {σ' : L2.St} {H' : Hp} {v : V} {u : Value} {s' : Shared}, L2.Inv (cxOf (L2.CX P w) P w K mg base N qual (defScope st) f cdv A around s H E) [] σ' H' s' → RelV v u → Q v H' →
      CE around P w H s Q u s' := fun j rv q => ⟨_, _, j.os, j.bare, j.base, j.hok, rv, q⟩
  refine wpAny_mono (ht.run [] s1 _ H _ inv hq) ?_ (fun _ _ z => z)
  intro fl s' hs
  cases fl with
  | ret u => obtain ⟨v, σ', H', j, rv, q⟩ := hs; exact ends j rv q
  | next => obtain ⟨σ', H', j, q⟩ := hs; exact ends (v := .non) (u := .none) j rfl q
  | brk => obtain ⟨_, _, _, q⟩ := hs; exact q.elim
  | cont => obtain ⟨_, _, _, q⟩ := hs; exact q.elim
end

/-! ### promises on data -/
/-- n arguments, and what F says -/
def spG (K : PySem.W.Frag) (n : Nat) (F : List D → Sto → R D) : Sp := fun vs H Q E => ∃ ι S ds, RS K ι H S ∧ RDs K ι H ds vs ∧ ds.length = n ∧ PR K (rD K) (fun cls dd _ H' => E cls dd H') [] ι H Q (F ds S)
theorem spG.len {K : PySem.W.Frag} {n : Nat} {F : List D → Sto → R D} {vs : List V} {H : Hp} {Q : VK} {E : XK} (h : spG K n F vs H Q E) : vs.length = n := by
  obtain ⟨ι, S, ds, rs, r, e, _⟩ := h
  rw [r.length, e]
def startE (n : Nat) (ds : List D) : Ev := ds.map some ++ List.replicate (n - ds.length) none
theorem startE_re {K : PySem.W.Frag} {ι : List Addr} {H : Hp} {ds : List D} {vs : List V} (N : List Str) (r : RDs K ι H ds vs) : RE K ι H (startE N.length ds) (L2.start N vs) := by
  unfold startE L2.start
  refine ⟨by simp [r.length], fun i d e => ?_⟩
  by_cases hi : i < ds.length
  · rw [List.getElem?_append_left (by simpa using hi), List.getElem?_map] at e
    cases q : ds[i]? with
    | none => rw [q] at e; cases e
    | some d' =>
      rw [q] at e
      cases e
      obtain ⟨v, a, b⟩ := r.get q
      exact ⟨v, by rw [List.getElem?_append_left (by simpa [r.length] using hi), List.getElem?_map, a]; rfl, b⟩
  · rw [List.getElem?_append_right (by simpa using hi), List.getElem?_replicate] at e
    split at e <;> cases e
def retOf : SR → R D
  | .rt d S => .ok d S
  | .nx _ S => .ok .non S
  | .ex e _ S => .ex e S
  | _ => .stk
/-- a def's body as a function -/
def runB (n : Nat) (m : SM) : List D → Sto → R D := fun ds S => retOf (m (startE n ds) S)
abbrev WD (E : XK) : WX := fun cls d _ H => E cls d H
section
variable {P : Program} {w : World} {K : PySem.W.Frag} {mg : Str → Option Value} {base : Heap} {k : Nat} {f : Addr} {fd : FuncData} {ps N : List Str}
/-- THE RULE: a def by the derivation of its body -/
theorem fn_ok {x qual : Str} {st : Stmt} {m : SM} (F : Fun K x qual st f fd) (S : FnScope N ps (defScope st))
    (body : ∀ (cdv : Value) (A : Around) (around : List Env) (s : Shared) (H : Hp) (E : XK), GR k (A.deeper (PyProof.Rows.envOfC qual (defScope st) s.heap.objs.size f cdv)) →
      SSs (cxOf (L2.CX P w) P w K mg base N qual (defScope st) f cdv A around s H E) (WD E) (defBody st) m) :
    FnG P w K mg base (k + 1) f fd ps (spG K ps.length (runB N.length m)) := by
  refine FnG.of F S (fun vs H Q E h => h.len) fun cdv A around s H vs Q E gr h => ⟨_, body cdv A around s H E gr, ?_⟩
  obtain ⟨ι, Sto, ds, rs, r, e, h⟩ := h
  refine ⟨ι, startE N.length ds, Sto, startE_re N r, rs, ?_⟩
  unfold runB at h
  cases em : m (startE N.length ds) Sto with
  | stk => rw [em] at h; exact h
  | rt d S' => rw [em] at h; exact h
  | nx ρ S' => rw [em] at h; exact fun ι' σ' H' x' rs' re' => h ι' .non H' x' rs' (by simp only [rD, RD])
  | bk ρ S' => rw [em] at h; exact h.elim
  | ct ρ S' => rw [em] at h; exact h.elim
  | ex e ρ S' => rw [em] at h; exact fun ι' σ' H' cls dd x' rs' _ => h ι' H' cls dd x' rs'
/-- another function that says the same where it says anything -/
theorem FnG.to {n : Nat} {F G : List D → Sto → R D} (h : FnG P w K mg base k f fd ps (spG K n F)) (e : ∀ ds S, ds.length = n → G ds S ≠ .stk → F ds S = G ds S) : FnG P w K mg base k f fd ps (spG K n G) := by
  refine h.imp fun vs H Q E q => ?_
  obtain ⟨ι, S, ds, rs, r, hl, q⟩ := q
  refine ⟨ι, S, ds, rs, r, hl, ?_⟩
  rw [e ds S hl fun z => by rw [z] at q; exact q]
  exact q
end

/-! ### calls -/
/-- the values in the parameters' order: (false, i) the i-th positional one, (true, j) the j-th keyword's -/
def pick {α : Type} (perm : List (Bool × Nat)) (us ws : List α) : List α := perm.filterMap fun p => match p with
  | (true, i) => ws[i]?
  | (false, i) => us[i]?
theorem RDs.pick {K : PySem.W.Frag} {ι : List Addr} {H : Hp} {ds es : List D} {vs us : List V} (r : RDs K ι H ds vs) (q : RDs K ι H es us) : ∀ perm, RDs K ι H (pick perm ds es) (DL.pick perm vs us)
  | [] => RDs.nil
  | (b, j) :: perm => by
    have ih := RDs.pick r q perm
    unfold DL.pick at ih ⊢
    rw [List.filterMap_cons, List.filterMap_cons]
    have one : ∀ {xs : List D} {zs : List V} (j : Nat), RDs K ι H xs zs → (xs[j]? = none ∧ zs[j]? = none) ∨ ∃ d v, xs[j]? = some d ∧ zs[j]? = some v ∧ RD K ι H d v := fun {xs zs} j t => by
      cases e : xs[j]? with
      | none => exact .inl ⟨rfl, List.getElem?_eq_none_iff.mpr (by rw [t.length]; exact List.getElem?_eq_none_iff.mp e)⟩
      | some d =>
        obtain ⟨v, a, b⟩ := t.get e
        exact .inr ⟨d, v, rfl, a, b⟩
    cases b with
    | true =>
      rcases one j q with ⟨e1, e2⟩ | ⟨d, v, e1, e2, e3⟩
      · simp only [e1, e2]; exact ih
      · simp only [e1, e2]; exact .cons e3 ih
    | false =>
      rcases one j r with ⟨e1, e2⟩ | ⟨d, v, e1, e2, e3⟩
      · simp only [e1, e2]; exact ih
      · simp only [e1, e2]; exact .cons e3 ih
theorem vals_pick {vs zs : List V} {us ws : List Value} (r : Vals vs us) (q : Vals zs ws) : ∀ perm, Vals (DL.pick perm vs zs) (DL.pick perm us ws)
  | [] => .nil
  | (b, j) :: perm => by
    have ih := vals_pick r q perm
    unfold DL.pick at ih ⊢
    rw [List.filterMap_cons, List.filterMap_cons]
    have one : ∀ {xs : List V} {zs : List Value} (j : Nat), Vals xs zs → (xs[j]? = none ∧ zs[j]? = none) ∨ ∃ d v, xs[j]? = some d ∧ zs[j]? = some v ∧ RelV d v := fun {xs zs} j t => by
      induction t generalizing j with
      | nil => exact .inl ⟨rfl, rfl⟩
      | cons a t ih =>
        cases j with
        | zero => exact .inr ⟨_, _, rfl, rfl, a⟩
        | succ j => simpa using ih j
    cases b with
    | true =>
      rcases one j q with ⟨e1, e2⟩ | ⟨d, v, e1, e2, e3⟩
      · simp only [e1, e2]; exact ih
      · simp only [e1, e2]; exact .cons e3 ih
    | false =>
      rcases one j r with ⟨e1, e2⟩ | ⟨d, v, e1, e2, e3⟩
      · simp only [e1, e2]; exact ih
      · simp only [e1, e2]; exact .cons e3 ih

abbrev FM := List D → Sto → R D
/-- a def of the module that may be called: F of its arguments -/
structure Cal (P : Program) (w : World) (K : PySem.W.Frag) (mg : Str → Option Value) (base : Heap) (k : Nat) (x : Str) (st : Stmt) (ps : List Str) (F : FM) : Prop where
  ex : ∃ f fd, FnG P w K mg base k f fd ps (spG K ps.length F) ∧ mg x = some (.ref f) ∧ Fun K x x st f fd
theorem Cal.mono {P : Program} {w : World} {K : PySem.W.Frag} {mg : Str → Option Value} {base : Heap} {j k : Nat} {x : Str} {st : Stmt} {ps : List Str} {F : FM} (h : Cal P w K mg base k x st ps F) (hk : k ≤ j) : Cal P w K mg base j x st ps F := by
  obtain ⟨f, fd, a, b, c⟩ := h.ex
  exact ⟨f, fd, a.mono hk, b, c⟩
def mCall (n : Nat) (F : FM) (ms : AM) : EM := fun ρ S => (ms ρ S).bind fun xs S1 => if xs.length = n then F xs S1 else .stk
def mCallK (n : Nat) (F : FM) (perm : List (Bool × Nat)) (ms mk : AM) : EM := fun ρ S => (ms ρ S).bind fun xs S1 => (mk ρ S1).bind fun ys S2 => if (pick perm xs ys).length = n then F (pick perm xs ys) S2 else .stk
theorem PR.at {α β : Type} {K : PySem.W.Frag} {rel : Rel α β} {W : WX} {σ : L2.St} {ι : List Addr} {H : Hp} {Q : β → Hp → Prop} {r : R α} (h : PR K rel W σ ι H Q r) : PR K rel (fun cls dd _ H' => W cls dd σ H') [] ι H Q r := by
  cases r with
  | stk => exact h
  | ok d S' => exact h
  | ex e S' => exact h
section
variable {X : Cx} {W : WX} {k : Nat} {x : Str} {st : Stmt} {ps ks : List Str} {F : FM} {p pos : Pos} {e : Expr} {es : List Expr} {kws : List Keyword} {ms mk : AM} {perm : List (Bool × Nat)}
theorem run_g {f : Addr} {fd : FuncData} {pins : List (Addr × Obj)} {σ : L2.St} {H : Hp} {s : Shared} {Q : VK} {given : Args} {us : List Value} {vs : List V} (Fn : FnG X.prog X.w X.K X.mg X.base k f fd ps (spG X.K ps.length F)) (hr : GR k X.A) (tk : Takes X W)
    (hb : BindsTo s fd given (ps.zip us)) (I : L2.Inv X pins σ H s) (r : Vals vs us) (h : spG X.K ps.length F vs H Q (WE W σ)) : wpAny (model X.prog X.w) X.A (call (.ref f) given.pos given.kw) (EP X pins σ Q) X.xe s := by
  refine wpAny_call (codeAny_mono (Fn.go X.A X.stack s H given us vs Q (WE W σ) hr I.env0 hb r h) fun r s' hq => ?_)
  cases r with
  | error e => exact passAt tk σ pins H s e s' I hq
  | ok fl =>
    cases fl with
    | ret u => exact I.after hq
    | next => exact False.elim hq
    | brk => exact False.elim hq
    | cont => exact False.elim hq
/-- f(e, ..) -/
theorem se_call (C : Cal X.prog X.w X.K X.mg X.base k x st ps F) (hr : GR k X.A) (tk : Takes X W)
    (hb : ∀ (kV doc pm : Value) (an : Option Addr) (cdv ct : Value) (us : List Value), us.length = ps.length → bindArgs (PySem.W.fnOf x x (defArgs st) (defBody st) (defScope st) .none kV doc pm an cdv ct) ⟨us, []⟩ = pure (ps.zip us))
    (ha : SA X W (e :: es) ms) (hg : Gl X x := by rfl) (hdb : (x == ("__debug__" : Str)) = false := by decide)
    (he : starEach (e :: es) X.env = (false, eval e X.env) :: starEach es X.env := by rfl) (hpl : (backTo pos (starEach es X.env)).any (·.1) = false := by rfl) :
    SE X W (.Call (.Name x p) (e :: es) [] pos) (mCall ps.length F ms) := by
  obtain ⟨f, fd, Fn, hm, Fu⟩ := C.ex
  have bd := Fu.binds hb
  refine ⟨fun pins s σ H Q I h => ?_⟩
  obtain ⟨ι, ρ, S, re, rs, h⟩ := h
  refine wpAny_Call_Name_kw (ld_glob I hg hm ?_ hdb)
  have h' : tMA X.K W ms σ H (fun vs H1 => spG X.K ps.length F vs H1 Q (WE W σ)) := ⟨ι, ρ, S, re, rs, by
    unfold mCall at h
    refine PR.imp (fun vs H1 hh => ?_) (PR.bind (rel := rDs X.K) h)
    obtain ⟨ι1, ds, S1, x1, rs1, r1, h1⟩ := hh
    split at h1
    · exact ⟨ι1, S1, ds, rs1, r1, by assumption, h1.at⟩
    · exact h1.elim⟩
  refine PySem.W.callWith_K (h₀ := X.base) I.ok.mod.kin Fu.kp (thn (ha.run pos pins s σ H _ I h') fun us s1 ⟨vs, H1, I1, r, q⟩ => ⟨I1.kIn, ?_⟩) he hpl
  have hl : us.length = ps.length := by rw [← r.length]; exact q.len
  have b := bd s1 us I1.kIn (by rw [List.append_nil]; exact hl)
  rw [List.append_nil] at b
  exact run_g (given := ⟨us, []⟩) Fn hr tk b I1 r q
/-- f() -/
theorem se_call0 (C : Cal X.prog X.w X.K X.mg X.base k x st [] F) (hr : GR k X.A) (tk : Takes X W)
    (hb : ∀ (kV doc pm : Value) (an : Option Addr) (cdv ct : Value), bindArgs (PySem.W.fnOf x x (defArgs st) (defBody st) (defScope st) .none kV doc pm an cdv ct) ⟨[], []⟩ = pure [])
    (hg : Gl X x := by rfl) (hdb : (x == ("__debug__" : Str)) = false := by decide) :
    SE X W (.Call (.Name x p) [] [] pos) (fun _ S => F [] S) := by
  obtain ⟨f, fd, Fn, hm, Fu⟩ := C.ex
  have bd := Fu.binds (ps := []) fun kV doc pm an cdv ct us hl => by
    cases us with
    | nil => exact hb _ _ _ _ _ _
    | cons _ _ => cases hl
  refine ⟨fun pins s σ H Q I h => ?_⟩
  obtain ⟨ι, ρ, S, re, rs, h⟩ := h
  refine wpAny_Call_Name_kw (ld_glob I hg hm ?_ hdb)
  have b := bd s [] I.kIn rfl
  exact PySem.W.callWith_K0 I.kIn Fu.kp (run_g (given := ⟨[], []⟩) (us := []) (vs := []) Fn hr tk b I .nil ⟨ι, S, [], rs, .nil, rfl, h.at⟩)

/-- the keywords' values -/
abbrev SK (X : Cx) (W : WX) (kws : List Keyword) (m : AM) : Prop := PK X kws (tMA X.K W m)
theorem PK.imp {t t' : TA} (h : PK X kws t) (q : ∀ σ H Q, t' σ H Q → t σ H Q) : PK X kws t' := ⟨fun pos pins s σ H Q I w => h.run pos pins s σ H Q I (q _ _ _ w)⟩
theorem sk_nil : SK X W [] aNil := PK.imp pk_nil fun σ H Q h => by
  obtain ⟨ι, ρ, S, re, rs, h⟩ := h
  exact h.ret rs RDs.nil
theorem sk_cons {m : EM} {nm : Option Str} {kpos : Pos} (he : SE X W e m) (hr : SK X W kws ms) : SK X W (⟨nm, e, kpos⟩ :: kws) (aCons m ms) := by
  refine PK.imp (pk_cons he hr) fun σ H Q h => ?_
  obtain ⟨ι, ρ, S, re, rs, h⟩ := h
  refine ⟨ι, ρ, S, re, rs, PR.imp (fun v H1 hh => ?_) (PR.bind (rel := rD X.K) h)⟩
  obtain ⟨ι1, d, S1, x1, rs1, r1, h1⟩ := hh
  refine ⟨ι1, ρ, S1, re.mono x1, rs1, PR.imp (fun u H2 hh => ?_) (PR.bind (rel := rDs X.K) h1)⟩
  obtain ⟨ι2, d2, S2, x2, rs2, r2, h2⟩ := hh
  exact h2.ret rs2 (.cons (RD.mono x2 r1) r2)
/-- f(e, .., k = v, ..) -/
theorem se_callK (C : Cal X.prog X.w X.K X.mg X.base k x st ps F) (hr : GR k X.A) (tk : Takes X W) (perm : List (Bool × Nat))
    (hb : ∀ (kV doc pm : Value) (an : Option Addr) (cdv ct : Value) (us ws : List Value), (pick perm us ws).length = ps.length → us.length = (e :: es).length → ws.length = ks.length → bindArgs (PySem.W.fnOf x x (defArgs st) (defBody st) (defScope st) .none kV doc pm an cdv ct) ⟨us, ks.zip ws⟩ = pure (ps.zip (pick perm us ws)))
    (ha : SA X W (e :: es) ms) (hkw : SK X W kws mk) (hnl : ∀ ρ S xs S', ms ρ S = .ok xs S' → xs.length = (e :: es).length) (hkl : ∀ ρ S xs S', mk ρ S = .ok xs S' → xs.length = ks.length)
    (hall : (backToKw pos (keywordEach kws X.env)).all (·.1.isSome) = true := by rfl) (hks : (backToKw pos (keywordEach kws X.env)).filterMap (·.1) = ks := by rfl)
    (hg : Gl X x := by rfl) (hdb : (x == ("__debug__" : Str)) = false := by decide)
    (he : starEach (e :: es) X.env = (false, eval e X.env) :: starEach es X.env := by rfl)
    (hpl : ((backTo pos (starEach (e :: es) X.env)).any (·.1) || (backToKw pos (keywordEach kws X.env)).any (·.1.isNone)) = false := by rfl) :
    SE X W (.Call (.Name x p) (e :: es) kws pos) (mCallK ps.length F perm ms mk) := by
  obtain ⟨f, fd, Fn, hm, Fu⟩ := C.ex
  obtain ⟨oc, od, kV, doc, pm, an, cdv, ct, osl, efd, lk, hcd⟩ := Fu.ex
  refine ⟨fun pins s σ H Q I h => ?_⟩
  obtain ⟨ι, ρ, S, re, rs, h⟩ := h
  refine wpAny_Call_Name_kw (ld_glob I hg hm ?_ hdb)
  have h' : tMA X.K W ms σ H (fun vs H1 => vs.length = (e :: es).length ∧ tMA X.K W mk σ H1 (fun zs H2 => zs.length = ks.length ∧ spG X.K ps.length F (DL.pick perm vs zs) H2 Q (WE W σ))) := ⟨ι, ρ, S, re, rs, by
    unfold mCallK at h
    cases em : ms ρ S with
    | stk => rw [em] at h; exact h
    | ex e S' => rw [em] at h; exact h
    | ok ds S' =>
      rw [em] at h
      intro ι1 vs H1 x1 rs1 r1
      refine ⟨by rw [r1.length]; exact hnl _ _ _ _ em, ι1, ρ, S', re.mono x1, rs1, ?_⟩
      have h1 := PR.mono x1 h
      simp only [bind_ok] at h1
      cases ek : mk ρ S' with
      | stk => rw [ek] at h1; exact h1
      | ex e S' => rw [ek] at h1; exact h1
      | ok es' S2 =>
        rw [ek] at h1
        intro ι2 zs H2 x2 rs2 r2
        refine ⟨by rw [r2.length]; exact hkl _ _ _ _ ek, ι2, S2, _, rs2, (RDs.mono x2 r1).pick r2 perm, ?_⟩
        have h2 := PR.mono x2 h1
        simp only [bind_ok] at h2
        split at h2
        · exact ⟨by assumption, h2.at⟩
        · exact h2.elim⟩
  refine PySem.W.callWith_KW (h₀ := X.base) I.ok.mod.kin Fu.kp hall (thn (ha.run pos pins s σ H _ I h') fun us s1 ⟨vs, H1, I1, r, ql, q⟩ => ?_) hpl he
  refine thn (hkw.run pos pins s1 σ H1 _ I1 q) fun ws s2 ⟨zs, H2, I2, rz, qk, q2⟩ => ⟨I2.kIn, ?_⟩
  rw [hks]
  have rp := vals_pick r rz perm
  have hl : (DL.pick perm us ws).length = ps.length := by rw [← rp.length]; exact q2.len
  refine run_g (given := ⟨us, ks.zip ws⟩) Fn hr tk ?_ I2 rp q2
  subst efd
  exact .of_eq (hb kV doc pm an cdv ct us ws hl (by rw [← r.length]; exact ql) (by rw [← rz.length]; exact qk))
/-- f(k = v, ..) -/
theorem se_callK0 (C : Cal X.prog X.w X.K X.mg X.base k x st ps F) (hr : GR k X.A) (tk : Takes X W) (perm : List (Bool × Nat))
    (hb : ∀ (kV doc pm : Value) (an : Option Addr) (cdv ct : Value) (ws : List Value), (pick perm [] ws).length = ps.length → ws.length = ks.length → bindArgs (PySem.W.fnOf x x (defArgs st) (defBody st) (defScope st) .none kV doc pm an cdv ct) ⟨[], ks.zip ws⟩ = pure (ps.zip (pick perm [] ws)))
    (hkw : SK X W kws mk) (hkl : ∀ ρ S xs S', mk ρ S = .ok xs S' → xs.length = ks.length)
    (hall : (backToKw pos (keywordEach kws X.env)).all (·.1.isSome) = true := by rfl) (hks : (backToKw pos (keywordEach kws X.env)).filterMap (·.1) = ks := by rfl)
    (hg : Gl X x := by rfl) (hdb : (x == ("__debug__" : Str)) = false := by decide)
    (hpl : ((backTo pos (starEach [] X.env)).any (·.1) || (backToKw pos (keywordEach kws X.env)).any (·.1.isNone)) = false := by rfl) :
    SE X W (.Call (.Name x p) [] kws pos) (mCallK ps.length F perm aNil mk) := by
  obtain ⟨f, fd, Fn, hm, Fu⟩ := C.ex
  obtain ⟨oc, od, kV, doc, pm, an, cdv, ct, osl, efd, lk, hcd⟩ := Fu.ex
  refine ⟨fun pins s σ H Q I h => ?_⟩
  obtain ⟨ι, ρ, S, re, rs, h⟩ := h
  refine wpAny_Call_Name_kw (ld_glob I hg hm ?_ hdb)
  have h' : tMA X.K W mk σ H (fun zs H2 => zs.length = ks.length ∧ spG X.K ps.length F (DL.pick perm [] zs) H2 Q (WE W σ)) := ⟨ι, ρ, S, re, rs, by
    have h1 : PR X.K (rD X.K) W σ ι H Q ((mk ρ S).bind fun ys S2 => if (pick perm [] ys).length = ps.length then F (pick perm [] ys) S2 else .stk) := h
    cases ek : mk ρ S with
    | stk => rw [ek] at h1; exact h1
    | ex e S' => rw [ek] at h1; exact h1
    | ok es' S2 =>
      rw [ek] at h1
      intro ι2 zs H2 x2 rs2 r2
      refine ⟨by rw [r2.length]; exact hkl _ _ _ _ ek, ι2, S2, _, rs2, RDs.pick .nil r2 perm, ?_⟩
      have h2 := PR.mono x2 h1
      simp only [bind_ok] at h2
      split at h2
      · exact ⟨by assumption, h2.at⟩
      · exact h2.elim⟩
  refine PySem.W.callWith_KW0 (h₀ := X.base) I.ok.mod.kin Fu.kp hall (thn (hkw.run pos pins s σ H _ I h') fun ws s2 ⟨zs, H2, I2, rz, qk, q2⟩ => ⟨I2.kIn, ?_⟩) hpl
  rw [hks]
  have rp := vals_pick .nil rz perm
  have hl : (DL.pick perm [] ws).length = ps.length := by rw [← rp.length]; exact q2.len
  refine run_g (given := ⟨[], ks.zip ws⟩) Fn hr tk ?_ I2 rp q2
  subst efd
  exact .of_eq (hb kV doc pm an cdv ct ws hl (by rw [← rz.length]; exact qk))
/-- how many: told by the argument list's form -/
theorem len_nil (ρ : Ev) (S : Sto) (xs : List D) (S' : Sto) (h : aNil ρ S = .ok xs S') : xs.length = 0 := by
  unfold aNil at h; cases h; rfl
theorem len_cons {m : EM} {r : AM} {n : Nat} (hr : ∀ ρ S xs S', r ρ S = .ok xs S' → xs.length = n) (ρ : Ev) (S : Sto) (xs : List D) (S' : Sto) (h : aCons m r ρ S = .ok xs S') : xs.length = n + 1 := by
  unfold aCons at h
  cases e1 : m ρ S with
  | stk => rw [e1] at h; cases h
  | ex e S' => rw [e1] at h; cases h
  | ok d S1 =>
    rw [e1] at h
    simp only [bind_ok] at h
    cases e2 : r ρ S1 with
    | stk => rw [e2] at h; cases h
    | ex e S' => rw [e2] at h; cases h
    | ok ds S2 =>
      rw [e2] at h
      cases h
      rw [List.length_cons, hr _ _ _ _ e2]
end
end DL

/-! the D-layer: built-in functions, methods, dict displays -/
namespace DL
open PySem L2

/-! ### lists of one kind -/
def strsD : List D → Option (List Str)
  | [] => some []
  | .str x :: r => (strsD r).map (x :: ·)
  | _ => none
def blsD : List D → Option (List Bool)
  | [] => some []
  | .bl x :: r => (blsD r).map (x :: ·)
  | _ => none
def intsD : List D → Option (List Int)
  | [] => some []
  | .int x :: r => (intsD r).map (x :: ·)
  | _ => none
def itemsD (d : D) (S : Sto) : Option (List D) := match d with
  | .tup xs => some xs
  | .ref n => seqAt S n
  | _ => none
section
variable {K : PySem.W.Frag} {ι : List Addr} {H : Hp} {S : Sto}
theorem strsD_rd : ∀ {ds : List D} {ys : List Str} {vs : List V}, strsD ds = some ys → RDs K ι H ds vs → vs = ys.map V.str
  | [], ys, vs, e, r => by simp only [strsD, Option.some.injEq] at e; subst e; simpa only [RDs, List.map_nil] using r
  | .str x :: ds, ys, vs, e, r => by
    simp only [strsD] at e
    cases e2 : strsD ds with
    | none => rw [e2] at e; cases e
    | some zs =>
      rw [e2] at e
      cases e
      simp only [RDs, RD] at r
      obtain ⟨v, r', rfl, rfl, t⟩ := r
      rw [strsD_rd e2 t]; rfl
  | .non :: _, _, _, e, _ => by simp [strsD] at e
  | .bl _ :: _, _, _, e, _ => by simp [strsD] at e
  | .int _ :: _, _, _, e, _ => by simp [strsD] at e
  | .tup _ :: _, _, _, e, _ => by simp [strsD] at e
  | .ref _ :: _, _, _, e, _ => by simp [strsD] at e
  | .raw _ :: _, _, _, e, _ => by simp [strsD] at e
theorem blsD_rd : ∀ {ds : List D} {ys : List Bool} {vs : List V}, blsD ds = some ys → RDs K ι H ds vs → vs = ys.map V.bl
  | [], ys, vs, e, r => by simp only [blsD, Option.some.injEq] at e; subst e; simpa only [RDs, List.map_nil] using r
  | .bl x :: ds, ys, vs, e, r => by
    simp only [blsD] at e
    cases e2 : blsD ds with
    | none => rw [e2] at e; cases e
    | some zs =>
      rw [e2] at e
      cases e
      simp only [RDs, RD] at r
      obtain ⟨v, r', rfl, rfl, t⟩ := r
      rw [blsD_rd e2 t]; rfl
  | .non :: _, _, _, e, _ => by simp [blsD] at e
  | .str _ :: _, _, _, e, _ => by simp [blsD] at e
  | .int _ :: _, _, _, e, _ => by simp [blsD] at e
  | .tup _ :: _, _, _, e, _ => by simp [blsD] at e
  | .ref _ :: _, _, _, e, _ => by simp [blsD] at e
  | .raw _ :: _, _, _, e, _ => by simp [blsD] at e
theorem intsD_rd : ∀ {ds : List D} {ys : List Int} {vs : List V}, intsD ds = some ys → RDs K ι H ds vs → vs = ys.map V.int
  | [], ys, vs, e, r => by simp only [intsD, Option.some.injEq] at e; subst e; simpa only [RDs, List.map_nil] using r
  | .int x :: ds, ys, vs, e, r => by
    simp only [intsD] at e
    cases e2 : intsD ds with
    | none => rw [e2] at e; cases e
    | some zs =>
      rw [e2] at e
      cases e
      simp only [RDs, RD] at r
      obtain ⟨v, r', rfl, rfl, t⟩ := r
      rw [intsD_rd e2 t]; rfl
  | .non :: _, _, _, e, _ => by simp [intsD] at e
  | .str _ :: _, _, _, e, _ => by simp [intsD] at e
  | .bl _ :: _, _, _, e, _ => by simp [intsD] at e
  | .tup _ :: _, _, _, e, _ => by simp [intsD] at e
  | .ref _ :: _, _, _, e, _ => by simp [intsD] at e
  | .raw _ :: _, _, _, e, _ => by simp [intsD] at e
theorem items_rd {d : D} {xs : List D} {v : V} (rs : RS K ι H S) (e : itemsD d S = some xs) (r : RD K ι H d v) : ∃ p vs, v = .ref p ∧ (SqL K H p vs ∨ SqT K H p vs) ∧ RDs K ι H xs vs := by
  cases d with
  | tup ys =>
    cases e
    simp only [RD] at r
    obtain ⟨p, vs, rfl, q, t⟩ := r
    exact ⟨p, vs, rfl, .inr q, t⟩
  | ref n =>
    obtain ⟨p, vs, rfl, _, q, t⟩ := rs.seq e r
    exact ⟨p, vs, rfl, .inl q, t⟩
  | _ => cases e
theorem one_rd {d : D} {vs : List V} (r : RDs K ι H [d] vs) : ∃ v, vs = [v] ∧ RD K ι H d v := by
  simp only [RDs] at r
  obtain ⟨v, r', rfl, a, rfl⟩ := r
  exact ⟨v, rfl, a⟩
theorem two_rd {d e : D} {vs : List V} (r : RDs K ι H [d, e] vs) : ∃ v u, vs = [v, u] ∧ RD K ι H d v ∧ RD K ι H e u := by
  simp only [RDs] at r
  obtain ⟨v, r', rfl, a, u, r2, rfl, b, rfl⟩ := r
  exact ⟨v, u, rfl, a, b⟩
end

/-! ### a call of a built-in -/
def mCB (f : DOps) (ms : AM) : EM := fun ρ S => (ms ρ S).bind fun xs S1 => ofO (f xs S1)
section
variable {X : Cx} {W : WX} {x : Str} {p pos : Pos} {e : Expr} {es : List Expr} {ms : AM} {id T : String} {f : DOps}
theorem cb_go {K : PySem.W.Frag} {σ : L2.St} {H : Hp} {Q : VK} (h : tM K W (mCB f ms) σ H Q) : tCB (rOps K f) (tMA K W ms) σ H Q := by
  obtain ⟨ι, ρ, S, re, rs, h⟩ := h
  refine ⟨ι, ρ, S, re, rs, PR.imp (fun v H1 hh => ?_) (PR.bind (rel := rDs K) h)⟩
  obtain ⟨ι1, d, S1, x1, rs1, r1, h1⟩ := hh
  exact ⟨ι1, S1, d, rs1, r1, PV.of h1⟩
theorem se_callB (hc : CallR X (.builtin id) (rOps X.K f)) (hm : X.mg x = none) (hv : bootBuiltins x = some (.builtin id)) (ha : SA X W (e :: es) ms) (hg : Gl X x := by rfl) (hn : x ≠ "__name__" := by decide) (hdb : (x == ("__debug__" : Str)) = false := by decide)
    (he : starEach (e :: es) X.env = (false, eval e X.env) :: starEach es X.env := by rfl) (hpl : (backTo pos (starEach es X.env)).any (·.1) = false := by rfl) : SE X W (.Call (.Name x p) (e :: es) [] pos) (mCB f ms) :=
  PE.imp (pe_callB hc hg hm hv ha hn hdb he hpl) fun _ _ _ h => cb_go h
theorem se_callTy (hc : CallR X (.type T) (rOps X.K f)) (hm : X.mg x = none) (hv : bootBuiltins x = some (.type T)) (ha : SA X W (e :: es) ms) (hg : Gl X x := by rfl) (hn : x ≠ "__name__" := by decide) (hdb : (x == ("__debug__" : Str)) = false := by decide)
    (he : starEach (e :: es) X.env = (false, eval e X.env) :: starEach es X.env := by rfl) (hpl : (backTo pos (starEach es X.env)).any (·.1) = false := by rfl) : SE X W (.Call (.Name x p) (e :: es) [] pos) (mCB f ms) :=
  PE.imp (pe_callTy hc hg hm hv ha hn hdb he hpl) fun _ _ _ h => cb_go h
/-- a built-in class as a value -/
theorem se_ty {x : Str} {T : String} (hm : X.mg x = none) (hv : bootBuiltins x = some (.type T)) (hg : Gl X x := by rfl) (hn : x ≠ "__name__" := by decide) (hd : (x == ("__debug__" : Str)) = false := by decide) : SE X W (.Name x pos) (mC (.raw (.ty T))) :=
  PE.imp (pe_bltn (v := .ty T) hg hm hv rfl hn hd) fun σ H Q h => tG_c (fun _ _ => by simp only [RD]) h
end

def bLen : DOps := fun xs S => match xs with
  | [d] => match itemsD d S with
    | some ys => some (.int ys.length, S)
    | none => match d with
      | .str z => if z.length ≤ sizeLine then some (.int z.length, S) else none
      | .ref n => match S[n]? with
        | some (.dct kvs) => some (.int kvs.length, S)
        | _ => none
      | _ => none
  | _ => none
def bList : DOps := fun xs S => match xs with
  | [d] => (itemsD d S).map fun ys => (.ref S.length, S ++ [.lst ys])
  | _ => none
def bTuple : DOps := fun xs S => match xs with
  | [d] => (itemsD d S).map fun ys => (.tup ys, S)
  | _ => none
def seqB (d : D) (S : Sto) : Option (List Bool) := match d with
  | .ref n => (seqAt S n).bind blsD
  | _ => none
def seqZ (d : D) (S : Sto) : Option (List Int) := match d with
  | .ref n => (seqAt S n).bind intsD
  | _ => none
def bAll : DOps := fun xs S => match xs with
  | [d] => (seqB d S).map fun bs => (.bl (bs.all id), S)
  | _ => none
def bAny : DOps := fun xs S => match xs with
  | [d] => (seqB d S).map fun bs => (.bl (bs.any id), S)
  | _ => none
def bSum : DOps := fun xs S => match xs with
  | [d] => (seqZ d S).map fun ns => (.int ns.sum, S)
  | _ => none
def bOrd : DOps := fun xs S => match xs with
  | [.str z] => if z.length = 1 then some (.int (z.cps.getD 0 0 : Nat), S) else none
  | _ => none
def tyD (S : Sto) : D → Option String
  | .non => some "NoneType"
  | .bl _ => some "bool"
  | .int _ => some "int"
  | .str _ => some "str"
  | .tup _ => some "tuple"
  | .ref n => match S[n]? with
    | some (.lst _) => some "list"
    | some (.fz _) => some "list"
    | some (.dct _) => some "dict"
    | _ => none
  | .raw _ => none
def bIsi : DOps := fun xs S => match xs with
  | [d, .raw (.ty T)] => (tyD S d).bind fun t => (kitB t T).map fun b => (.bl b, S)
  | _ => none
def okRepr (p : PyData) : Bool := p.showable && decide (p.depth ≤ 60) && decide (p.shown.length ≤ sizeLine)
def bRepr : DOps := fun xs S => match xs with
  | [d] => (toP S d).bind fun p => if okRepr p = true then some (.str p.shown, S) else none
  | _ => none
def bInt : DOps := fun xs S => match xs with
  | [.int i] => some (.int i, S)
  | [.bl b] => some (.int (PyProof.Rows.b2i b), S)
  | _ => none
section
variable {X : Cx}
theorem c_len : CallR X (.builtin "len") (rOps X.K bLen) := by
  intro pins s σ H xs us Q I r h
  obtain ⟨ι, S, ds, rs, rd, hh⟩ := h
  unfold bLen at hh
  split at hh
  · rename_i d
    obtain ⟨v, rfl, rv⟩ := one_rd rd
    split at hh
    · rename_i ys e
      obtain ⟨p, vs, rfl, q, t⟩ := items_rd rs e rv
      exact call_len_seq pins s σ H _ us Q I r ⟨p, vs, rfl, q, PV.ret hh rs (by simp only [RD]; rw [t.length])⟩
    · split at hh
      · rename_i z he
        split at hh
        · simp only [RD] at rv
          subst rv
          exact call_len_str pins s σ H _ us Q I r ⟨z, rfl, by assumption, PV.ret hh rs (by simp only [RD])⟩
        · exact hh.elim
      · rename_i n _
        split at hh
        · rename_i kvs e
          obtain ⟨p, vs, rfl, _, hH, rk⟩ := rs.dct e rv
          exact call_lenD pins s σ H _ us Q I r ⟨p, vs, rfl, hH, PV.ret hh rs (by simp only [RD]; rw [rk.length])⟩
        · exact hh.elim
      · exact hh.elim
  · exact hh.elim
theorem c_list : CallR X (.type "list") (rOps X.K bList) := by
  intro pins s σ H xs us Q I r h
  obtain ⟨ι, S, ds, rs, rd, hh⟩ := h
  unfold bList at hh
  split at hh
  · rename_i d
    obtain ⟨v, rfl, rv⟩ := one_rd rd
    cases e : itemsD d S with
    | none => rw [e] at hh; exact hh.elim
    | some ys =>
      rw [e] at hh
      obtain ⟨p, vs, rfl, q, t⟩ := items_rd rs e rv
      exact call_list_of pins s σ H _ us Q I r ⟨p, vs, rfl, q, new_lst rs t hh⟩
  · exact hh.elim
theorem c_tuple : CallR X (.type "tuple") (rOps X.K bTuple) := by
  intro pins s σ H xs us Q I r h
  obtain ⟨ι, S, ds, rs, rd, hh⟩ := h
  unfold bTuple at hh
  split at hh
  · rename_i d
    obtain ⟨v, rfl, rv⟩ := one_rd rd
    cases e : itemsD d S with
    | none => rw [e] at hh; exact hh.elim
    | some ys =>
      rw [e] at hh
      obtain ⟨p, vs, rfl, q, t⟩ := items_rd rs e rv
      refine call_tuple_of pins s σ H _ us Q I r ⟨p, vs, rfl, ?_⟩
      rcases q with q | q
      · exact .inl ⟨q, new_tup rs t hh⟩
      · exact .inr ⟨q, PV.ret hh rs (by simp only [RD]; exact ⟨p, vs, rfl, q, t⟩)⟩
  · exact hh.elim
theorem seqB_rd {K : PySem.W.Frag} {ι : List Addr} {H : Hp} {S : Sto} {d : D} {bs : List Bool} {v : V} (rs : RS K ι H S) (e : seqB d S = some bs) (r : RD K ι H d v) : ∃ p, v = .ref p ∧ SqL K H p (bs.map V.bl) := by
  unfold seqB at e
  split at e
  · rename_i n
    cases e2 : seqAt S n with
    | none => rw [e2] at e; cases e
    | some ys =>
      rw [e2] at e
      obtain ⟨p, vs, rfl, _, q, t⟩ := rs.seq e2 r
      have := blsD_rd e t
      subst this
      exact ⟨p, rfl, q⟩
  · cases e
theorem seqZ_rd {K : PySem.W.Frag} {ι : List Addr} {H : Hp} {S : Sto} {d : D} {bs : List Int} {v : V} (rs : RS K ι H S) (e : seqZ d S = some bs) (r : RD K ι H d v) : ∃ p, v = .ref p ∧ SqL K H p (bs.map V.int) := by
  unfold seqZ at e
  split at e
  · rename_i n
    cases e2 : seqAt S n with
    | none => rw [e2] at e; cases e
    | some ys =>
      rw [e2] at e
      obtain ⟨p, vs, rfl, _, q, t⟩ := rs.seq e2 r
      have := intsD_rd e t
      subst this
      exact ⟨p, rfl, q⟩
  · cases e
theorem c_all (hc : X.calm = true) : CallR X (.builtin "all") (rOps X.K bAll) := by
  intro pins s σ H xs us Q I r h
  obtain ⟨ι, S, ds, rs, rd, hh⟩ := h
  unfold bAll at hh
  split at hh
  · rename_i d
    obtain ⟨v, rfl, rv⟩ := one_rd rd
    cases e : seqB d S with
    | none => rw [e] at hh; exact hh.elim
    | some bs =>
      rw [e] at hh
      obtain ⟨p, rfl, q⟩ := seqB_rd rs e rv
      exact cr_all hc pins s σ H _ us Q I r ⟨p, bs, rfl, q, PV.ret hh rs (by simp only [RD])⟩
  · exact hh.elim
theorem c_any (hc : X.calm = true) : CallR X (.builtin "any") (rOps X.K bAny) := by
  intro pins s σ H xs us Q I r h
  obtain ⟨ι, S, ds, rs, rd, hh⟩ := h
  unfold bAny at hh
  split at hh
  · rename_i d
    obtain ⟨v, rfl, rv⟩ := one_rd rd
    cases e : seqB d S with
    | none => rw [e] at hh; exact hh.elim
    | some bs =>
      rw [e] at hh
      obtain ⟨p, rfl, q⟩ := seqB_rd rs e rv
      exact cr_any hc pins s σ H _ us Q I r ⟨p, bs, rfl, q, PV.ret hh rs (by simp only [RD])⟩
  · exact hh.elim
theorem c_sum (hc : X.calm = true) : CallR X (.builtin "sum") (rOps X.K bSum) := by
  intro pins s σ H xs us Q I r h
  obtain ⟨ι, S, ds, rs, rd, hh⟩ := h
  unfold bSum at hh
  split at hh
  · rename_i d
    obtain ⟨v, rfl, rv⟩ := one_rd rd
    cases e : seqZ d S with
    | none => rw [e] at hh; exact hh.elim
    | some bs =>
      rw [e] at hh
      obtain ⟨p, rfl, q⟩ := seqZ_rd rs e rv
      exact cr_sum hc pins s σ H _ us Q I r ⟨p, bs, rfl, q, PV.ret hh rs (by simp only [RD])⟩
  · exact hh.elim
theorem c_ord : CallR X (.builtin "ord") (rOps X.K bOrd) := by
  intro pins s σ H xs us Q I r h
  obtain ⟨ι, S, ds, rs, rd, hh⟩ := h
  unfold bOrd at hh
  split at hh
  · rename_i z
    obtain ⟨v, rfl, rv⟩ := one_rd rd
    simp only [RD] at rv
    subst rv
    split at hh
    · exact call_ord pins s σ H _ us Q I r ⟨z, rfl, by assumption, PV.ret hh rs (by simp only [RD])⟩
    · exact hh.elim
  · exact hh.elim
theorem tyD_rd {K : PySem.W.Frag} {ι : List Addr} {H : Hp} {S : Sto} {d : D} {t : String} {v : V} (rs : RS K ι H S) (e : tyD S d = some t) (r : RD K ι H d v) : TyX K H v (.type t) := by
  cases d with
  | non => cases e; simp only [RD] at r; subst r; exact .base .non
  | bl b => cases e; simp only [RD] at r; subst r; exact .base (.bl b)
  | int i => cases e; simp only [RD] at r; subst r; exact .base (.int i)
  | str z => cases e; simp only [RD] at r; subst r; exact .base (.str z)
  | tup ys =>
    cases e
    simp only [RD] at r
    obtain ⟨p, vs, rfl, q, t⟩ := r
    rcases q with (q | ⟨o, q⟩) | ⟨o, its, n, hk, hc, _⟩
    · exact .base (.tup q)
    · exact .fTuple q
    · exact .kTuple hk hc
  | ref n =>
    have seqc : ∀ xs, seqAt S n = some xs → TyX K H v (.type "list") := fun xs hx => by
      obtain ⟨p, vs, rfl, _, q, t⟩ := rs.seq hx r
      rcases q with (q | ⟨o, q⟩) | ⟨o, its, n, hk, hc, _⟩
      · exact .base (.lst q)
      · exact .base (.frz q)
      · exact .kList hk hc
    simp only [tyD] at e
    split at e
    · rename_i xs hn; cases e; exact seqc xs (by unfold seqAt; rw [hn])
    · rename_i xs hn; cases e; exact seqc xs (by unfold seqAt; rw [hn])
    · rename_i kvs hn
      cases e
      obtain ⟨p, vs, rfl, _, hH, rk⟩ := rs.dct hn r
      exact .base (.dK hH)
    · cases e
  | raw u => cases e
theorem c_isi : CallR X (.builtin "isinstance") (rOps X.K bIsi) := by
  intro pins s σ H xs us Q I r h
  obtain ⟨ι, S, ds, rs, rd, hh⟩ := h
  unfold bIsi at hh
  split at hh
  · rename_i d T
    obtain ⟨v, u, rfl, r1, r2⟩ := two_rd rd
    simp only [RD] at r2
    subst r2
    cases e : tyD S d with
    | none => rw [e] at hh; exact hh.elim
    | some t =>
      rw [e] at hh
      cases ek : kitB t T with
      | none => simp only [Option.bind_some, ek] at hh; exact hh.elim
      | some b =>
        simp only [Option.bind_some, ek] at hh
        exact call_isi pins s σ H _ us Q I r ⟨v, .ty T, .type t, .type T, b, rfl, .ty T, tyD_rd rs e r1, kit_ty ek, PV.ret hh rs (by simp only [RD])⟩
  · exact hh.elim
theorem c_repr (hg : X.A.guards = some []) (hu : X.A.units + 100 < cLine) (sk : SysK X.K) : CallR X (.builtin "repr") (rOps X.K bRepr) := by
  intro pins s σ H xs us Q I r h
  obtain ⟨ι, S, ds, rs, rd, hh⟩ := h
  unfold bRepr at hh
  split at hh
  · rename_i d
    obtain ⟨v, rfl, rv⟩ := one_rd rd
    obtain ⟨u, rfl, ru⟩ := vals1 r
    cases e : toP S d with
    | none => rw [e] at hh; exact hh.elim
    | some p =>
      rw [e] at hh
      simp only [Option.bind_some] at hh
      split at hh
      · rename_i hok
        simp only [okRepr, Bool.and_eq_true, decide_eq_true_eq] at hok
        obtain ⟨⟨h1, h2⟩, h3⟩ := hok
        have hq : Q (.str p.shown) H := PV.ret hh rs (by simp only [RD])
        obtain ⟨as, rp, na⟩ := toP_reads sk I rs rv ru e
        cases rp with
        | none => exact PySem.P.repr_of_none ⟨.str _, H, I.tok _, ⟨_, rfl⟩, by simpa only [PyData.shown] using hq⟩
        | bool b => exact PySem.P.repr_of_bool ⟨.str _, H, I.tok _, ⟨_, rfl⟩, by simpa only [PyData.shown] using hq⟩
        | int i t => exact PySem.P.repr_of_int (by simpa only [PyData.showable, decide_eq_true_eq] using h1) ⟨.str _, H, I.tok _, ⟨_, rfl⟩, by simpa only [PyData.shown] using hq⟩
        | str z t => exact PySem.P.repr_of_str ⟨.str _, H, I.tok _, ⟨_, rfl⟩, by simpa only [PyData.shown] using hq⟩ (by simpa only [PyData.shown] using h3)
        | list a b c d' => exact repr_of_reads' (h₀ := s.heap) (.list a b c d') h1 (fun _ => na) hg (by omega) (fun _ _ e => e) (fun h' u tk kp => ⟨.str _, H, I.kept kp, ⟨_, rfl⟩, hq⟩) h3
        | tuple a b c d' => exact repr_of_reads' (h₀ := s.heap) (.tuple a b c d') h1 (fun _ => na) hg (by omega) (fun _ _ e => e) (fun h' u tk kp => ⟨.str _, H, I.kept kp, ⟨_, rfl⟩, hq⟩) h3
        | dict a b c d' e' => exact repr_of_reads' (h₀ := s.heap) (.dict a b c d' e') h1 (fun _ => na) hg (by omega) (fun _ _ e => e) (fun h' u tk kp => ⟨.str _, H, I.kept kp, ⟨_, rfl⟩, hq⟩) h3
      · exact hh.elim
  · exact hh.elim
end

/-! ### x in y -/
def inD (x y : D) (S : Sto) : Option Bool := match x, y with
  | .str i, .str j => if i.length = 1 then some (decide (i.cps.getD 0 0 ∈ j.cps.toList)) else some (!(Builtin.Str.occurrences j i 0 j.length 1).isEmpty)
  | _, _ => match toP S x, toP S y with
    | some p, some (.list qs) => if (SeqAt.shaped p && SeqAt.shaped (.list qs)) = true then some (qs.any fun z => PyData.eqv z p) else none
    | some p, some (.tuple qs) => if (SeqAt.shaped p && SeqAt.shaped (.tuple qs)) = true then some (qs.any fun z => PyData.eqv z p) else none
    | _, _ => none
end DL

/-! the D-layer: int, in, methods, dict displays -/
namespace DL
open PySem L2

section
variable {X : Cx}
theorem c_int : CallR X (.type "int") (rOps X.K bInt) := by
  intro pins s σ H xs us Q I r h
  obtain ⟨ι, S, ds, rs, rd, hh⟩ := h
  unfold bInt at hh
  split at hh
  · rename_i i
    obtain ⟨v, rfl, rv⟩ := one_rd rd
    simp only [RD] at rv
    subst rv
    exact call_int1 pins s σ H _ us Q I r (.inl ⟨i, rfl, PV.ret hh rs (by simp only [RD])⟩)
  · rename_i b
    obtain ⟨v, rfl, rv⟩ := one_rd rd
    simp only [RD] at rv
    subst rv
    exact call_int1 pins s σ H _ us Q I r (.inr ⟨b, rfl, PV.ret hh rs (by simp only [RD]; cases b <;> rfl)⟩)
  · exact hh.elim

theorem str_one {i : Str} (h : i.length = 1) : i = ⟨#[i.cps.getD 0 0]⟩ := by
  obtain ⟨⟨l⟩⟩ := i
  match l, h with
  | [c], _ => rfl

/-! ### x in y -/
theorem o_in (hu : X.A.units + 65 < cLine) (sk : SysK X.K) : OpR X (compareOp .In) (rOp X.K fun x y S => (inD x y S).map fun b => (.bl b, S)) := by
  intro pins s σ H a b v u Q I ra rb h
  obtain ⟨ι, S, x, y, rs, rx, ry, hh⟩ := h
  cases hk : inD x y S with
  | none => simp only [hk] at hh; exact hh.elim
  | some k =>
    simp only [hk] at hh
    have q : Q (.bl k) H := PV.ret hh rs (by simp only [RD])
    unfold inD at hk
    split at hk
    · rename_i i j
      simp only [RD] at rx ry
      subst rx; subst ry
      split at hk
      · rename_i h1
        cases hk
        refine op_in_sign pins s σ H _ _ v u Q I ra rb ⟨i.cps.getD 0 0, j, ?_, rfl, q⟩
        rw [← str_one h1]
      · cases hk
        exact op_in_str pins s σ H _ _ v u Q I ra rb ⟨i, j, rfl, rfl, q⟩
    · split at hk
      · rename_i p qs ep eq
        split at hk
        · rename_i hs
          rw [Bool.and_eq_true] at hs
          cases hk
          obtain ⟨as, r1, _⟩ := toP_reads sk I rs rx ra ep
          obtain ⟨bs, r2, _⟩ := toP_reads sk I rs ry rb eq
          exact SeqAt.in_list_reads r2 r1 (SeqAt.canLay_of_shaped hs.2) (SeqAt.canLay_of_shaped hs.1) (PyProof.Rows.room_in_shaped hs.1 hu) ⟨.bl _, H, I, rfl, q⟩
        · cases hk
      · rename_i p qs ep eq
        split at hk
        · rename_i hs
          rw [Bool.and_eq_true] at hs
          cases hk
          obtain ⟨as, r1, _⟩ := toP_reads sk I rs rx ra ep
          obtain ⟨bs, r2, _⟩ := toP_reads sk I rs ry rb eq
          exact SeqAt.in_tuple_reads r2 r1 (SeqAt.canLay_of_shaped hs.2) (SeqAt.canLay_of_shaped hs.1) (PyProof.Rows.room_in_shaped hs.1 hu) ⟨.bl _, H, I, rfl, q⟩
        · cases hk
      · cases hk
theorem o_notIn (hu : X.A.units + 65 < cLine) (sk : SysK X.K) : OpR X (compareOp .NotIn) (rOp X.K fun x y S => (inD x y S).map fun b => (.bl (!b), S)) := by
  intro pins s σ H a b v u Q I ra rb h
  obtain ⟨ι, S, x, y, rs, rx, ry, hh⟩ := h
  cases hk : inD x y S with
  | none => simp only [hk] at hh; exact hh.elim
  | some k =>
    simp only [hk] at hh
    have q : Q (.bl (!k)) H := PV.ret hh rs (by simp only [RD])
    unfold inD at hk
    split at hk
    · rename_i i j
      simp only [RD] at rx ry
      subst rx; subst ry
      split at hk
      · rename_i h1
        cases hk
        refine op_notIn_sign pins s σ H _ _ v u Q I ra rb ⟨i.cps.getD 0 0, j, ?_, rfl, q⟩
        rw [← str_one h1]
      · cases hk
        exact op_notin_str pins s σ H _ _ v u Q I ra rb ⟨i, j, rfl, rfl, q⟩
    · split at hk
      · rename_i p qs ep eq
        split at hk
        · rename_i hs
          rw [Bool.and_eq_true] at hs
          cases hk
          obtain ⟨as, r1, _⟩ := toP_reads sk I rs rx ra ep
          obtain ⟨bs, r2, _⟩ := toP_reads sk I rs ry rb eq
          exact SeqAt.notIn_list_reads r2 r1 (SeqAt.canLay_of_shaped hs.2) (SeqAt.canLay_of_shaped hs.1) (PyProof.Rows.room_in_shaped hs.1 hu) ⟨.bl _, H, I, rfl, q⟩
        · cases hk
      · rename_i p qs ep eq
        split at hk
        · rename_i hs
          rw [Bool.and_eq_true] at hs
          cases hk
          obtain ⟨as, r1, _⟩ := toP_reads sk I rs rx ra ep
          obtain ⟨bs, r2, _⟩ := toP_reads sk I rs ry rb eq
          exact SeqAt.notIn_tuple_reads r2 r1 (SeqAt.canLay_of_shaped hs.2) (SeqAt.canLay_of_shaped hs.1) (PyProof.Rows.room_in_shaped hs.1 hu) ⟨.bl _, H, I, rfl, q⟩
        · cases hk
      · cases hk
end
def dIn : DOp := fun x y S => (inD x y S).map fun b => (.bl b, S)
def dNotIn : DOp := fun x y S => (inD x y S).map fun b => (.bl (!b), S)

/-! ### methods -/
abbrev DM := D → List D → Sto → Option (D × Sto)
def rMt (K : PySem.W.Frag) (f : DM) : V → List V → Hp → VK → Prop := fun v vs H Q => ∃ ι S x xs, RS K ι H S ∧ RD K ι H x v ∧ RDs K ι H xs vs ∧ PV K ι H Q (f x xs S)
inductive Rc where
  | str | lst | dct
def Rc.name : Rc → String
  | .str => "str"
  | .lst => "list"
  | .dct => "dict"
def Rc.is (c : Rc) (x : D) (S : Sto) : Bool := match c, x with
  | .str, .str _ => true
  | .lst, .ref n => (seqAt S n).isSome
  | .dct, .ref n => match S[n]? with
    | some (.dct _) => true
    | _ => false
  | _, _ => false
theorem Rc.ty {K : PySem.W.Frag} {ι : List Addr} {H : Hp} {S : Sto} {c : Rc} {d : D} {v : V} (rs : RS K ι H S) (h : c.is d S = true) (r : RD K ι H d v) : tyV K c.name v H := by
  unfold Rc.is at h
  split at h
  · simp only [RD] at r; subst r; rfl
  · rename_i n
    cases e : seqAt S n with
    | none => rw [e] at h; cases h
    | some xs =>
      obtain ⟨p, vs, rfl, _, q, _⟩ := rs.seq e r
      exact .inl ⟨rfl, vs, q⟩
  · rename_i n
    split at h
    · rename_i kvs e
      obtain ⟨p, vs, rfl, _, hH, _⟩ := rs.dct e r
      exact .inr (.inr (.inl ⟨rfl, .inl ⟨_, hH⟩⟩))
    · cases h
  · cases h
def mMt (c : Rc) (f : DM) (mo : EM) (ms : AM) : EM := fun ρ S => (mo ρ S).bind fun o S1 => if c.is o S1 = true then (ms ρ S1).bind fun xs S2 => ofO (f o xs S2) else .stk
section
variable {X : Cx} {W : WX} {o e : Expr} {es : List Expr} {mo : EM} {ms : AM} {name : Str} {apos cpos : Pos} {id : String} {f : DM} {c : Rc}
theorem mt_go {K : PySem.W.Frag} {σ : L2.St} {H : Hp} {Q : VK} (h : tM K W (mMt c f mo ms) σ H Q) : tBM K c.name (rMt K f) (tM K W mo) (tMA K W ms) σ H Q := by
  obtain ⟨ι, ρ, S, re, rs, h⟩ := h
  refine ⟨ι, ρ, S, re, rs, PR.imp (fun v H1 hh => ?_) (PR.bind (rel := rD K) h)⟩
  obtain ⟨ι1, d, S1, x1, rs1, r1, h1⟩ := hh
  split at h1
  · rename_i hc
    refine ⟨Rc.ty rs1 hc r1, ι1, ρ, S1, re.mono x1, rs1, PR.imp (fun u H2 hh => ?_) (PR.bind (rel := rDs K) h1)⟩
    obtain ⟨ι2, d2, S2, x2, rs2, r2, h2⟩ := hh
    exact ⟨ι2, S2, d, d2, rs2, RD.mono x2 r1, r2, PV.of h2⟩
  · exact h1.elim
theorem mt_go0 {K : PySem.W.Frag} {σ : L2.St} {H : Hp} {Q : VK} (h : tM K W (mMt c f mo aNil) σ H Q) : tBM0 K c.name (rMt K f) (tM K W mo) σ H Q := by
  obtain ⟨ι, ρ, S, re, rs, h⟩ := h
  refine ⟨ι, ρ, S, re, rs, PR.imp (fun v H1 hh => ?_) (PR.bind (rel := rD K) h)⟩
  obtain ⟨ι1, d, S1, x1, rs1, r1, h1⟩ := hh
  split at h1
  · rename_i hc
    exact ⟨Rc.ty rs1 hc r1, ι1, S1, d, [], rs1, r1, .nil, PV.of (W := W) (σ := σ) h1⟩
  · exact h1.elim
/-- o.m(e, ..) -/
theorem se_mt (pa : PlainAttrs c.name) (slot : Slot c.name name id) (hty : typeOf (.builtin id) = pure (.type "method_descriptor")) (hm : MtR X id (rMt X.K f)) (ho : SE X W o mo) (ha : SA X W (e :: es) ms)
    (hbase : attributeBase o name X.env (eval o X.env) = eval o X.env := by rfl)
    (hfew : ((backTo cpos (starEach (e :: es) X.env)).all (fun x => !x.1) && (backToKw cpos (keywordEach [] X.env)).all (fun x => x.1.isSome)
      && decide ((e :: es).length + ([] : List Keyword).length + (if ([] : List Keyword).isEmpty then 0 else 1) < 30)) = true := by rfl)
    (hline : (apos.endLine == cpos.line) = true := by rfl) (hs : starEach (e :: es) X.env = (false, eval e X.env) :: starEach es X.env := by rfl) (hplain : (backTo cpos (starEach es X.env)).any (·.1) = false := by rfl) :
    SE X W (.Call (.Attribute o name apos) (e :: es) [] cpos) (mMt c f mo ms) :=
  PE.imp (pe_bm pa slot hty hm ho ha hbase hfew hline hs hplain) fun _ _ _ h => mt_go h
theorem se_mt0 (pa : PlainAttrs c.name) (slot : Slot c.name name id) (hty : typeOf (.builtin id) = pure (.type "method_descriptor")) (hm : MtR X id (rMt X.K f)) (ho : SE X W o mo)
    (hbase : attributeBase o name X.env (eval o X.env) = eval o X.env := by rfl) (hline : (apos.endLine == cpos.line) = true := by rfl) : SE X W (.Call (.Attribute o name apos) [] [] cpos) (mMt c f mo aNil) :=
  PE.imp (pe_bm0 pa slot hty hm ho hbase hline) fun _ _ _ h => mt_go0 h
end
def dAppend : DM := fun x xs S => match x, xs with
  | .ref n, [d] => match S[n]? with
    | some (.lst ys) => if ys.length < sizeLine then some (.non, S.set n (.lst (ys ++ [d]))) else none
    | _ => none
  | _, _ => none
def dExtend : DM := fun x xs S => match x, xs with
  | .ref n, [.ref m] => match S[n]?, S[m]? with
    | some (.lst ys), some (.lst zs) => if ys.length + zs.length ≤ sizeLine then some (.non, S.set n (.lst (ys ++ zs))) else none
    | _, _ => none
  | _, _ => none
def dPop : DM := fun x xs S => match x, xs with
  | .ref n, [] => match S[n]? with
    | some (.lst ys) => (ys[ys.length - 1]?).map fun y => (y, S.set n (.lst ys.dropLast))
    | _ => none
  | _, _ => none
def dJoin : DM := fun x xs S => match x, xs with
  | .str a, [d] => ((itemsD d S).bind strsD).bind fun ys => if (ys.map (·.length)).sum + ys.length * a.length ≤ 16777216 then some (.str (Txt.join a ys), S) else none
  | _, _ => none
def dSplit : DM := fun x xs S => match x, xs with
  | .str a, [.str b] => if ((b.length != 0) && decide (a.length + 2 ≤ sizeLine)) = true then some (.ref S.length, S ++ [.lst ((Txt.split a b).map .str)]) else none
  | .str a, [] => if a.length + 2 ≤ sizeLine then some (.ref S.length, S ++ [.lst ((Txt.words a).map .str)]) else none
  | _, _ => none
def dRstrip : DM := fun x xs S => match x, xs with
  | .str a, [.str b] => if a.length ≤ sizeLine then some (.str (Txt.rstripChars a b), S) else none
  | _, _ => none
def dCount : DM := fun x xs S => match x, xs with
  | .str a, [.str b] => some (.int (Txt.count a b), S)
  | _, _ => none
def dFind : DM := fun x xs S => match x, xs with
  | .str a, [.str b] => some (.int (Txt.find a b), S)
  | .str a, [.str b, .int i] => some (.int (Txt.find3 a b i), S)
  | _, _ => none
section
variable {X : Cx}
theorem RDs.dropLast {K : PySem.W.Frag} {ι : List Addr} {H : Hp} {ds : List D} {vs : List V} (r : RDs K ι H ds vs) : RDs K ι H ds.dropLast vs.dropLast := by
  rw [List.dropLast_eq_take, List.dropLast_eq_take, r.length]
  exact r.take _
theorem t_append : MtR X "list.append" (rMt X.K dAppend) := by
  intro pins s σ H x xs v us Q I rx rxs h
  obtain ⟨ι, S, d, ds, rs, rd, rds, hh⟩ := h
  unfold dAppend at hh
  split at hh
  · rename_i n y
    obtain ⟨w, rfl, rw'⟩ := one_rd rds
    split at hh
    · rename_i ys hn
      split at hh
      · rename_i hz
        obtain ⟨p, vs, rfl, hp, hH, r⟩ := rs.lst hn rd
        have nt : ∀ zs, HO.lst vs ≠ .tup zs := fun _ z => by cases z
        have nf : ∀ b u, HO.lst vs ≠ .frz b u := fun _ _ z => by cases z
        refine mt_append pins s σ H _ _ v us Q I rx rxs ⟨p, vs, w, rfl, rfl, hH, by rw [r.length]; exact hz, ?_⟩
        have x1 : Ext X.K ι H ι (upd H p (.lst (vs ++ [w]))) := .put hH nt nf
        exact hh ι _ _ x1 (rs.put hn hp rfl rfl ⟨_, upd_same, RDs.mono x1 (r.append (.cons rw' .nil))⟩) (by simp only [RD])
      · exact hh.elim
    · exact hh.elim
  · exact hh.elim
theorem t_extend : MtR X "list.extend" (rMt X.K dExtend) := by
  intro pins s σ H x xs v us Q I rx rxs h
  obtain ⟨ι, S, d, ds, rs, rd, rds, hh⟩ := h
  unfold dExtend at hh
  split at hh
  · rename_i n m
    obtain ⟨w, rfl, rw'⟩ := one_rd rds
    split at hh
    · rename_i ys zs hn hm
      split at hh
      · rename_i hz
        obtain ⟨p, vs, rfl, hp, hH, r⟩ := rs.lst hn rd
        obtain ⟨p2, us2, rfl, hp2, hH2, r2⟩ := rs.lst hm rw'
        have nt : ∀ zs, HO.lst vs ≠ .tup zs := fun _ z => by cases z
        have nf : ∀ b u, HO.lst vs ≠ .frz b u := fun _ _ z => by cases z
        refine mt_extend pins s σ H _ _ v us Q I rx rxs ⟨p, p2, vs, us2, rfl, rfl, hH, hH2, by rw [r.length, r2.length]; exact hz, ?_⟩
        have x1 : Ext X.K ι H ι (upd H p (.lst (vs ++ us2))) := .put hH nt nf
        exact hh ι _ _ x1 (rs.put hn hp rfl rfl ⟨_, upd_same, RDs.mono x1 (r.append r2)⟩) (by simp only [RD])
      · exact hh.elim
    · exact hh.elim
  · exact hh.elim
theorem t_pop : MtR X "list.pop" (rMt X.K dPop) := by
  intro pins s σ H x xs v us Q I rx rxs h
  obtain ⟨ι, S, d, ds, rs, rd, rds, hh⟩ := h
  unfold dPop at hh
  split at hh
  · rename_i n
    simp only [RDs] at rds
    subst rds
    split at hh
    · rename_i ys hn
      cases ey : ys[ys.length - 1]? with
      | none => rw [ey] at hh; exact hh.elim
      | some y =>
        rw [ey] at hh
        obtain ⟨p, vs, rfl, hp, hH, r⟩ := rs.lst hn rd
        obtain ⟨w, ew, rw'⟩ := r.get ey
        have nt : ∀ zs, HO.lst vs ≠ .tup zs := fun _ z => by cases z
        have nf : ∀ b u, HO.lst vs ≠ .frz b u := fun _ _ z => by cases z
        refine mt_pop pins s σ H _ _ v us Q I rx rxs ⟨p, vs, w, rfl, rfl, hH, by rw [r.length]; exact ew, ?_⟩
        have x1 : Ext X.K ι H ι (upd H p (.lst vs.dropLast)) := .put hH nt nf
        exact hh ι _ _ x1 (rs.put hn hp rfl rfl ⟨_, upd_same, RDs.mono x1 r.dropLast⟩) (RD.mono x1 rw')
    · exact hh.elim
  · exact hh.elim
theorem RDs.of_strs {K : PySem.W.Frag} {ι : List Addr} {H : Hp} : ∀ ys : List Str, RDs K ι H (ys.map D.str) (ys.map V.str)
  | [] => .nil
  | y :: ys => .cons (by simp only [RD]) (RDs.of_strs ys)
theorem t_join : MtR X "str.join" (rMt X.K dJoin) := by
  intro pins s σ H x xs v us Q I rx rxs h
  obtain ⟨ι, S, d, ds, rs, rd, rds, hh⟩ := h
  unfold dJoin at hh
  split at hh
  · rename_i a y
    obtain ⟨w, rfl, rw'⟩ := one_rd rds
    simp only [RD] at rd
    subst rd
    cases e1 : itemsD y S with
    | none => rw [e1] at hh; exact hh.elim
    | some its =>
      rw [e1] at hh
      simp only [Option.bind_some] at hh
      cases e2 : strsD its with
      | none => rw [e2] at hh; exact hh.elim
      | some ys =>
        rw [e2] at hh
        simp only [Option.bind_some] at hh
        split at hh
        · rename_i hz
          obtain ⟨p, vs, rfl, q, t⟩ := items_rd rs e1 rw'
          have := strsD_rd e2 t
          subst this
          exact mt_join pins s σ H _ _ v us Q I rx rxs ⟨a, p, ys, rfl, rfl, q, hz, PV.ret hh rs (by simp only [RD])⟩
        · exact hh.elim
  · exact hh.elim
theorem t_split : MtR X "str.split" (rMt X.K dSplit) := by
  intro pins s σ H x xs v us Q I rx rxs h
  obtain ⟨ι, S, d, ds, rs, rd, rds, hh⟩ := h
  unfold dSplit at hh
  split at hh
  · rename_i a b
    obtain ⟨w, rfl, rw'⟩ := one_rd rds
    simp only [RD] at rd rw'
    subst rd; subst rw'
    split at hh
    · rename_i hz
      simp only [Bool.and_eq_true, bne_iff_ne, ne_eq, decide_eq_true_eq] at hz
      exact mt_split pins s σ H _ _ v us Q I rx rxs ⟨a, b, rfl, rfl, by simpa using hz.1, hz.2, new_lst rs (RDs.of_strs _) hh⟩
    · exact hh.elim
  · rename_i a
    simp only [RDs] at rds
    subst rds
    simp only [RD] at rd
    subst rd
    split at hh
    · rename_i hz
      exact mt_words pins s σ H _ _ v us Q I rx rxs ⟨a, rfl, rfl, hz, new_lst rs (RDs.of_strs _) hh⟩
    · exact hh.elim
  · exact hh.elim
theorem t_rstrip : MtR X "str.rstrip" (rMt X.K dRstrip) := by
  intro pins s σ H x xs v us Q I rx rxs h
  obtain ⟨ι, S, d, ds, rs, rd, rds, hh⟩ := h
  unfold dRstrip at hh
  split at hh
  · rename_i a b
    obtain ⟨w, rfl, rw'⟩ := one_rd rds
    simp only [RD] at rd rw'
    subst rd; subst rw'
    split at hh
    · exact mt_rstripChars pins s σ H _ _ v us Q I rx rxs ⟨a, b, rfl, rfl, by assumption, PV.ret hh rs (by simp only [RD])⟩
    · exact hh.elim
  · exact hh.elim
theorem t_count : MtR X "str.count" (rMt X.K dCount) := by
  intro pins s σ H x xs v us Q I rx rxs h
  obtain ⟨ι, S, d, ds, rs, rd, rds, hh⟩ := h
  unfold dCount at hh
  split at hh
  · rename_i a b
    obtain ⟨w, rfl, rw'⟩ := one_rd rds
    simp only [RD] at rd rw'
    subst rd; subst rw'
    exact mt_count pins s σ H _ _ v us Q I rx rxs ⟨a, b, rfl, rfl, PV.ret hh rs (by simp only [RD])⟩
  · exact hh.elim
theorem t_find : MtR X "str.find" (rMt X.K dFind) := by
  intro pins s σ H x xs v us Q I rx rxs h
  obtain ⟨ι, S, d, ds, rs, rd, rds, hh⟩ := h
  unfold dFind at hh
  split at hh
  · rename_i a b
    obtain ⟨w, rfl, rw'⟩ := one_rd rds
    simp only [RD] at rd rw'
    subst rd; subst rw'
    exact mt_find pins s σ H _ _ v us Q I rx rxs ⟨a, b, rfl, rfl, PV.ret hh rs (by simp only [RD])⟩
  · rename_i a b i
    obtain ⟨w, w2, rfl, r1, r2⟩ := two_rd rds
    simp only [RD] at rd r1 r2
    subst rd; subst r1; subst r2
    exact mt_find3 pins s σ H _ _ v us Q I rx rxs ⟨a, b, i, rfl, rfl, PV.ret hh rs (by simp only [RD])⟩
  · exact hh.elim
end

/-! ### dict displays with texts as keys -/
def disp (kvs : List (Str × D)) : List (Key × D) := kvs.foldl (fun acc kv => putD acc (.inr kv.1) kv.2) []
/-- {"k": v, ..}: the new dict stands empty while the values are made -/
def mDct (ks : List Str) (ms : AM) : EM := fun ρ S => (ms ρ (S ++ [.dct []])).bind fun xs S1 => match S1[S.length]? with
  | some (.dct []) => if (decide (ks.length ≤ 15) && decide (xs.length = ks.length)) = true then .ok (.ref S.length) (S1.set S.length (.dct (disp (ks.zip xs)))) else .stk
  | _ => .stk
section
variable {X : Cx} {W : WX} {pos : Pos}
inductive SKV (X : Cx) (W : WX) (pos : Pos) : List Str → List (Option Expr) → List Expr → AM → Prop where
  | nil : SKV X W pos [] [] [] aNil
  | cons {k : Str} {j : Nat} {p : Pos} {ks : List Str} {es : List (Option Expr)} {v : Expr} {vs : List Expr} {m : EM} {ms : AM} (hv : SE X W v m) (hr : SKV X W pos ks es vs ms) : SKV X W pos (k :: ks) (some (.Constant (.str k) j p) :: es) (v :: vs) (aCons m ms)
theorem SKV.pps {ks : List Str} {es : List (Option Expr)} {vs : List Expr} {ms : AM} (h : SKV X W pos ks es vs ms) : ∃ trs, PPs X pos es vs trs ∧ es.all (·.isSome) = true ∧ es.length = vs.length ∧ es.length = ks.length ∧
    ∀ σ H (Q : List (V × V) → Hp → Prop), tMA X.K W ms σ H (fun us H1 => us.length = ks.length → Q ((ks.map V.str).zip us) H1) → tPairs trs σ H Q := by
  induction h with
  | nil => exact ⟨[], pps_nil, rfl, rfl, rfl, fun σ H Q h => by
      obtain ⟨ι, ρ, S, re, rs, h⟩ := h
      exact (PR.ret h rs RDs.nil) rfl⟩
  | @cons k j p ks es v vs m ms hv hr ih =>
    obtain ⟨trs, h1, h2, h3, h4, h5⟩ := ih
    refine ⟨_, pps_cons pe_str hv h1, by simp [h2], by simp [h3], by simp [h4], fun σ H Q h => ?_⟩
    obtain ⟨ι, ρ, S, re, rs, h⟩ := h
    show tM X.K W m σ H fun y H2 => tPairs trs σ H2 fun ps H3 => Q ((V.str k, y) :: ps) H3
    refine ⟨ι, ρ, S, re, rs, PR.imp (fun v H1 hh => ?_) (PR.bind (rel := rD X.K) h)⟩
    obtain ⟨ι1, d, S1, x1, rs1, r1, h1⟩ := hh
    refine h5 σ H1 _ ⟨ι1, ρ, S1, re.mono x1, rs1, PR.imp (fun u H2 hh => ?_) (PR.bind (rel := rDs X.K) h1)⟩
    obtain ⟨ι2, d2, S2, x2, rs2, r2, h2⟩ := hh
    intro hl
    have q := h2.ret rs2 (v := v :: u) (.cons (RD.mono x2 r1) r2)
    exact q (by simp [hl])
theorem RKs.fold {K : PySem.W.Frag} {ι : List Addr} {H : Hp} : ∀ {ks : List Str} {ds : List D} {vs : List V} {acc : List (Key × D)} {accV : List (Key × V)}, RKs K ι H acc accV → RDs K ι H ds vs →
    RKs K ι H ((ks.zip ds).foldl (fun acc kv => putD acc (.inr kv.1) kv.2) acc) ((ks.zip vs).foldl (fun acc kv => putK acc (Sum.inr kv.1 : Key) kv.2) accV)
  | [], ds, vs, acc, accV, h, r => by simpa using h
  | k :: ks, [], vs, acc, accV, h, r => by simp only [RDs] at r; subst r; simpa using h
  | k :: ks, d :: ds, vs, acc, accV, h, r => by
    simp only [RDs] at r
    obtain ⟨v, r', rfl, a, t⟩ := r
    simp only [List.zip_cons_cons, List.foldl_cons]
    exact RKs.fold (RKs.put (.inr k) a h) t
theorem se_dct {ks : List Str} {es : List (Option Expr)} {vs : List Expr} {ms : AM} (h : SKV X W pos ks es vs ms) (h0 : es ≠ []) (h15 : es.length ≤ 15) : SE X W (.Dict es vs pos) (mDct ks ms) := by
  obtain ⟨trs, hp, ha, hl, hk, ht⟩ := h.pps
  refine PE.imp (pe_disp hp ha hl h0 h15) fun σ H Q hh => ?_
  obtain ⟨ι, ρ, S, re, rs, hh⟩ := hh
  intro p hp0
  have x0 : Ext X.K ι H (ι ++ [p]) (upd H p (.dK [])) := .push hp0
  have rs0 : RS X.K (ι ++ [p]) (upd H p (.dK [])) (S ++ [.dct []]) := rs.push hp0 rfl ⟨[], upd_same, by simp only [RKs]⟩
  refine ht σ _ _ ⟨ι ++ [p], ρ, _, re.mono x0, rs0, PR.imp (fun us H1 hh => ?_) (PR.bind (rel := rDs X.K) (hh.mono x0))⟩
  obtain ⟨ι1, ds, S1, x1, rs1, r1, h1⟩ := hh
  intro hlen
  split at h1
  · rename_i en
    split at h1
    · rename_i hc
      simp only [Bool.and_eq_true, decide_eq_true_eq] at hc
      have hpi : ι1[S.length]? = some p := x1.ix (by rw [← rs.len]; simp)
      obtain ⟨p', vs', e', hp', hH, rk⟩ := rs1.dct (v := .ref p) en (by simp only [RD]; exact ⟨p, rfl, hpi⟩)
      cases e'
      simp only [RKs] at rk
      subst rk
      refine ⟨hH, (ks.zip us).map fun kv => ((Sum.inr kv.1 : Key), kv.2), ?_, by simp; omega, ?_⟩
      · rw [List.map_map, List.zip_map_left]
        rfl
      · have nt : ∀ zs, HO.dK [] ≠ .tup zs := fun _ z => by cases z
        have nf : ∀ b u, HO.dK [] ≠ .frz b u := fun _ _ z => by cases z
        have x2 : ∀ o, Ext X.K ι1 H1 ι1 (upd H1 p o) := fun o => .put hH nt nf
        refine h1 ι1 _ _ (x2 _) (rs1.put en hpi rfl rfl ⟨_, upd_same, RKs.mono (x2 _) ?_⟩) (by simp only [RD]; exact ⟨p, rfl, hpi⟩)
        have := RKs.fold (ks := ks) (acc := []) (accV := []) (K := X.K) (ι := ι1) (H := H1) (by simp only [RKs]) r1
        unfold disp mergeK
        rw [List.foldl_map]
        exact this
    · exact h1.elim
  · exact h1.elim
/-- {} -/
def mDct0 : EM := fun _ S => .ok (.ref S.length) (S ++ [.dct []])
theorem se_dct0 : SE X W (.Dict [] [] pos) mDct0 := PE.imp pe_dnewK fun σ H Q hh => by
  obtain ⟨ι, ρ, S, re, rs, hh⟩ := hh
  intro p hp0
  exact hh (ι ++ [p]) _ _ (.push hp0) (rs.push hp0 rfl ⟨[], upd_same, by simp only [RKs]⟩) (by simp only [rD, RD]; exact ⟨p, rfl, by rw [← rs.len]; simp⟩)
end
end DL

/-! the D-layer: the law's own end -/
namespace DL
open PySem L2
section
variable {P : Program} {w : World} {K : PySem.W.Frag} {mg : Str → Option Value} {k : Nat}
/-- what is tracked when the law is called: the script, where the module has not written it itself -/
def trk0 (K : PySem.W.Frag) (a : Addr) (o oS : Obj) (ns : List Int) : Hp := fun b => if b = sysModules then some (.frz oS (.own 0)) else if b = a ∧ K.lookup a = none then some (.frz o (.lst (ns.map V.int))) else none
theorem trk0_eq {a b : Addr} {o oS : Obj} {ns : List Int} {u : HO} (h : trk0 K a o oS ns b = some u) : (b = sysModules ∧ u = .frz oS (.own 0)) ∨ (b = a ∧ K.lookup a = none ∧ u = .frz o (.lst (ns.map V.int))) := by
  unfold trk0 at h
  split at h
  · rename_i c; exact .inl ⟨c, (Option.some.inj h).symm⟩
  · split at h
    · rename_i c; exact .inr ⟨c.1, c.2, (Option.some.inj h).symm⟩
    · cases h
/-- THE HEAD -/
theorem law_go {mb : Str → Option Value} {fa a : Addr} {fd : FuncData} {x : Str} {F : FM} {sh : Shared} {vs : List Value} {ns : List Int}
    (kin : K.In sh.heap) (glob : sh.heap.Ns mainGlobals mg) (blt : sh.heap.Ns builtinsNs mb) (boot : ∀ x : Str, x ≠ "__name__" → mb x = bootBuiltins x) (nolim : sh.heap.NoLimit) (nogen : sh.gens = #[]) (nsys : K.lookup sysModules = none) (mods : ∃ mm, sh.heap.Ns sysModules mm)
    (lay : sh.heap.get? a = some { cls := .type "list", data := .seq vs.toArray }) (hints : PyProof.Rows.IntsAre vs ns) (few : ns.length ≤ sizeLine) (gr : GR k callerA)
    (Fn : ∀ base : Heap, K.In base → base.Ns mainGlobals mg → FnG P w K mg base k fa fd [x] (spG K 1 F)) (bd : ∀ (t : Shared) (u : Value), BindsTo t fd ⟨[u], []⟩ [(x, u)])
    (ans : ∃ S', F [.ref 0] [.fz (ns.map D.int)] = .ok (.bl true) S') :
    codeAny (model P w) callerA (.call (.ref fa) ⟨[.ref a], []⟩) (fun r t => r = .ok (.ret (.bool true)) ∧ PySem.OldK sh.heap t.heap ∧ t.os = sh.os ∧ PyProof.Rows.AllBare t.gens) sh := by
  obtain ⟨S', ans⟩ := ans
  have rv := vals_ints hints
  have hlen := hints.length
  obtain ⟨mm, oS, esS, epS, getS, dataS, _⟩ := mods
  have aS : a ≠ sysModules := fun z => by
    rw [z, getS] at lay
    cases lay
    cases dataS
  obtain ⟨H, eH⟩ : ∃ H, H = trk0 K a { cls := .type "list", data := .seq vs.toArray } oS ns := ⟨_, rfl⟩
  have only : ∀ {b u}, H b = some u → (b = sysModules ∧ u = .frz oS (.own 0)) ∨ (b = a ∧ K.lookup a = none ∧ u = .frz { cls := .type "list", data := .seq vs.toArray } (.lst (ns.map V.int))) := fun h => trk0_eq (by rw [← eH]; exact h)
  have hok : HOk P w H sh.heap := fun b u h => by
    rcases only h with ⟨rfl, rfl⟩ | ⟨rfl, _, rfl⟩
    · exact ⟨getS, oS, getS⟩
    · exact ⟨lay, by rw [List.length_map]; exact few, vs, _, rv, lay⟩
  have noDict : ∀ {b : Addr} {o : Obj} {es : Array DictEntry} {ep : Nat}, b ≠ sysModules → sh.heap.get? b = some o → o.data = .dict es ep → H b = none := fun {b o es ep} nb e d => by
    cases q : H b with
    | none => rfl
    | some u =>
      rcases only q with ⟨z, _⟩ | ⟨rfl, _, _⟩
      · exact (nb z).elim
      · rw [lay] at e; cases e; cases d
  have nsK : ∀ {b : Addr} {m : Str → Option Value}, b ≠ sysModules → sh.heap.Ns b m → (hidT sh.heap H).Ns b m := fun {b m} nb ⟨o, es, ep, e, d, r⟩ => ⟨o, es, ep, hidT_get e (noDict nb e d), d, r⟩
  have kinB : K.In (hidT sh.heap H) := fun b o e => hidT_get (kin b o e) (by
    cases q : H b with
    | none => rfl
    | some u =>
      rcases only q with ⟨rfl, _⟩ | ⟨rfl, n, _⟩
      · rw [nsys] at e; cases e
      · rw [n] at e; cases e)
  have hM : Mod K mg (hidT sh.heap H) := ⟨kinB, nsK (by decide) glob, ⟨mb, nsK (by decide) blt, boot⟩, let ⟨mc, h1, h2⟩ := nolim; ⟨mc, nsK (by decide) h1, h2⟩⟩
  have e0 : Env0 P w K mg (hidT sh.heap H) callerA [] sh H := ⟨rfl, hM, fun b o e => of_hidT e, Nat.le_of_eq (hidT_size _ _), trivial, fun b hb => (List.not_mem_nil (show b ∈ ([] : List Addr) from hb)).elim, hok, .of_eq nogen⟩
  have sq : (∃ o, H a = some (.frz o (.lst (ns.map V.int)))) ∨ ∀ H', SqL K H' a (ns.map V.int) := by
    cases q : K.lookup a with
    | none => exact .inl ⟨_, by rw [eH]; unfold trk0; rw [if_neg aS, if_pos ⟨rfl, q⟩]⟩
    | some o =>
      have e := kin a o q
      rw [lay] at e; cases e
      exact .inr fun H' => .inr ⟨_, vs.toArray, _, q, rfl, rfl, rfl, by rw [List.size_toArray, hlen]; exact few, by simpa using rv⟩
  have rs : RS K [a] H [.fz (ns.map D.int)] := by
    refine ⟨rfl, fun n c h => ?_, fun n m p c c' _ _ h3 _ m1 _ => ?_, ⟨oS, 0, by rw [eH]; unfold trk0; rw [if_pos rfl]⟩⟩
    · match n, h with
      | 0, h => cases h; exact ⟨a, rfl, ns.map V.int, sq, RDs.of_ints ns⟩
    · match n, h3 with
      | 0, h3 => cases h3; cases m1
  have sp : spG K 1 F [.ref a] H (fun v _ => v = .bl true) fun _ _ _ => False :=
    ⟨[a], [.fz (ns.map D.int)], [.ref 0], rs, .cons (by simp only [RD]; exact ⟨a, rfl, rfl⟩) .nil, rfl, by
      rw [ans]
      intro ι' v H' _ _ r
      simpa only [rD, RD] using r⟩
  refine codeAny_mono ((Fn _ kinB (nsK (by decide) glob)).go callerA [] sh H ⟨[.ref a], []⟩ [.ref a] [.ref a] _ _ gr e0 (bd sh (.ref a)) (.cons rfl .nil) sp) fun r t h => ?_
  match r, h with
  | .error e, h => obtain ⟨_, _, _, _, _, _, _, _, _, _, _, _, z⟩ := h; exact z.elim
  | .ok .next, h => exact False.elim h
  | .ok .brk, h => exact False.elim h
  | .ok .cont, h => exact False.elim h
  | .ok (.ret u), h =>
    obtain ⟨v, H', os, bare, un, hok', r', q⟩ := h
    have q' : v = .bl true := q
    subst q'
    cases (show u = Value.bool true from r')
    refine ⟨rfl, PySem.OldK.of_keep fun b o e => ?_, os, bare⟩
    cases q : H b with
    | none => exact un.keep b o e q (fun z => (List.not_mem_nil (show b ∈ ([] : List Addr) from z)).elim) List.not_mem_nil
    | some u =>
      rcases only q with ⟨rfl, rfl⟩ | ⟨rfl, _, rfl⟩
      · obtain ⟨e1, _⟩ := hok' _ _ (un.frzs _ _ _ q)
        rw [getS] at e; cases e
        exact e1
      · obtain ⟨e1, _⟩ := hok' b _ (un.frzs b _ _ q)
        rw [lay] at e; cases e
        exact e1
end
/-- the goal that k_head leaves -/
theorem law_end {l : PySem.W.OpenLaw} {k : Nat} {q : Program} {loose : List Str} {XP : (Str → Option Value) → Heap → Prop} {YP : World → Heap → Prop} {d : DefRec} {K : Params → PySem.W.Frag} {x : Str}
    (hn : l.most = some 63) (hdf : d.params.defaults = []) (hk : 1 + claimMargin + 3 * k + 5 < recursionLimit) (hk2 : 4 + 16 * k + 200 < cLine)
    (hY : ∀ (w : World) (h : Heap), YP w h → (K w.params).In h) (himp : PyProof.Rows.importsNone q = true) (nsys : ∀ w : World, (K w.params).lookup sysModules = none)
    (F : ∀ (w : World) (mg : Str → Option Value) (fa : Addr) (h : Heap), (K w.params).In h → h.Ns mainGlobals mg → mg d.name = some (.ref fa) →
      ∃ (fd : FuncData) (G : FM), (∀ (s : Shared) (u : Value), BindsTo s fd ⟨[u], []⟩ [(x, u)]) ∧
        (∀ ns : List Int, ns.length ≤ 63 → ∃ S', G [.ref 0] [.fz (ns.map D.int)] = .ok (.bl true) S') ∧
        ∀ base : Heap, (K w.params).In base → base.Ns mainGlobals mg → FnG l.prog w (K w.params) mg base k fa fd [x] (spG (K w.params) 1 G)) :
    PySem.W.WalkO q loose XP YP l.row.toRowW d [] (fun f vs => PySem.call f vs) := by
  refine Att.attach_call hn hdf fun w s₀ s₁ mg mb fa o pm cd doc a vs ns G Y ho hd hcd hmg hobj hints hlen hg => ?_
  obtain ⟨fd, G', hb, ha, hF⟩ := F w mg fa _ (hY w _ Y) G.T.g hmg
  exact law_go (hY w _ Y) G.T.g G.T.b G.T.builtins G.T.nolimit hg (nsys w) (let ⟨mm, h, _⟩ := (G.T.seer himp).mods; ⟨mm, h⟩) hobj hints (Nat.le_trans hlen (by decide)) ⟨⟨rfl, hk, hk2⟩, rfl⟩ hF hb (ha ns hlen)
end DL

/-! the D-layer: more of the language -/
namespace DL
open PySem L2
theorem GR.u65 {k : Nat} {A : Around} (r : GR k A) : A.units + 65 < cLine := by have := r.room.un; omega

/-! ### xs[::-1] -/
def mRev (m : EM) : EM := fun ρ S => (m ρ S).bind fun d S1 => match d with
  | .ref n => match seqAt S1 n with
    | some xs => .ok (.ref S1.length) (S1 ++ [.lst xs.reverse])
    | none => .stk
  | _ => .stk
theorem RDs.reverse {K : PySem.W.Frag} {ι : List Addr} {H : Hp} : ∀ {ds : List D} {vs : List V}, RDs K ι H ds vs → RDs K ι H ds.reverse vs.reverse
  | [], vs, r => by simp only [RDs] at r; subst r; exact .nil
  | d :: ds, vs, r => by
    simp only [RDs] at r
    obtain ⟨v, r', rfl, a, t⟩ := r
    rw [List.reverse_cons, List.reverse_cons]
    exact (RDs.reverse t).append (.cons a .nil)
section
variable {X : Cx} {W : WX} {e : Expr} {m : EM}
theorem se_rev {k : Nat} {p1 p2 p3 pos : Pos} (he : SE X W e m) : SE X W (.Subscript e (.Slice none none (some (.UnaryOp .USub (.Constant (.int 1) k p1) p2)) p3) pos) (mRev m) := by
  refine PE.imp (pe_revL he) fun σ H Q h => ?_
  obtain ⟨ι, ρ, S, re, rs, h⟩ := h
  refine ⟨ι, ρ, S, re, rs, PR.imp (fun v H1 hh => ?_) (PR.bind (rel := rD X.K) h)⟩
  obtain ⟨ι1, d, S1, x1, rs1, r1, h1⟩ := hh
  split at h1
  · rename_i n
    split at h1
    · rename_i xs hx
      obtain ⟨p, vs, rfl, _, q, t⟩ := rs1.seq hx r1
      exact ⟨p, vs, rfl, q, new_lst rs1 t.reverse (PV.of (o := some _) h1)⟩
    · exact h1.elim
  · exact h1.elim
end

/-! ### max, min of two ints -/
def bMax : DOps := fun xs S => match xs with
  | [.int i, .int j] => some (.int (if j > i then j else i), S)
  | _ => none
def bMin : DOps := fun xs S => match xs with
  | [.int i, .int j] => some (.int (if j < i then j else i), S)
  | _ => none
section
variable {X : Cx}
theorem c_max (hc : X.calm = true) : CallR X (.builtin "max") (rOps X.K bMax) := by
  intro pins s σ H xs us Q I r h
  obtain ⟨ι, S, ds, rs, rd, hh⟩ := h
  unfold bMax at hh
  split at hh
  · rename_i i j
    obtain ⟨v, u, rfl, r1, r2⟩ := two_rd rd
    simp only [RD] at r1 r2
    subst r1; subst r2
    exact call_max2 hc pins s σ H _ us Q I r ⟨i, j, rfl, PV.ret hh rs (by simp only [RD])⟩
  · exact hh.elim
theorem c_min (hc : X.calm = true) : CallR X (.builtin "min") (rOps X.K bMin) := by
  intro pins s σ H xs us Q I r h
  obtain ⟨ι, S, ds, rs, rd, hh⟩ := h
  unfold bMin at hh
  split at hh
  · rename_i i j
    obtain ⟨v, u, rfl, r1, r2⟩ := two_rd rd
    simp only [RD] at r1 r2
    subst r1; subst r2
    exact call_min2 hc pins s σ H _ us Q I r ⟨i, j, rfl, PV.ret hh rs (by simp only [RD])⟩
  · exact hh.elim
end
end DL

/-! the D-layer: plain laws about the functions -/
namespace DL
open PySem L2

/-- the result is told, and P of it -/
def WP {α : Type} (r : R α) (P : α → Sto → Prop) : Prop := match r with
  | .ok a S => P a S
  | _ => False
section
variable {α β : Type} {r : R α} {P Q : α → Sto → Prop}
@[simp] theorem wp_ok (a : α) (S : Sto) (P : α → Sto → Prop) : WP (.ok a S) P ↔ P a S := Iff.rfl
@[simp] theorem wp_stk (P : α → Sto → Prop) : WP .stk P ↔ False := Iff.rfl
@[simp] theorem wp_bind (r : R α) (f : α → Sto → R β) (P : β → Sto → Prop) : WP (r.bind f) P ↔ WP r (fun a S => WP (f a S) P) := by cases r <;> exact Iff.rfl
theorem WP.mono (h : WP r P) (q : ∀ a S, P a S → Q a S) : WP r Q := by
  cases r with
  | ok a S => exact q _ _ h
  | _ => exact h
theorem WP.elim (h : WP r P) : ∃ a S, r = .ok a S ∧ P a S := by
  cases r with
  | ok a S => exact ⟨a, S, rfl, h⟩
  | _ => exact h.elim
theorem WP.and (h : WP r P) (q : WP r Q) : WP r (fun a S => P a S ∧ Q a S) := by
  cases r with
  | ok a S => exact ⟨h, q⟩
  | _ => exact h
end
/-- what is wanted behind a statement -/
structure Post where
  nx : Ev → Sto → Prop
  rt : D → Sto → Prop
  bk : Ev → Sto → Prop := fun _ _ => False
  ct : Ev → Sto → Prop := fun _ _ => False
  ex : Exn → Ev → Sto → Prop := fun _ _ _ => False
def WS (r : SR) (Q : Post) : Prop := match r with
  | .stk => False
  | .nx ρ S => Q.nx ρ S
  | .rt d S => Q.rt d S
  | .bk ρ S => Q.bk ρ S
  | .ct ρ S => Q.ct ρ S
  | .ex e ρ S => Q.ex e ρ S
/-- of an expression that may raise -/
def WX' {α : Type} (r : R α) (P : α → Sto → Prop) (E : Exn → Sto → Prop) : Prop := match r with
  | .stk => False
  | .ok a S => P a S
  | .ex e S => E e S
section
variable {Q Q' : Post} {ρ : Ev} {S : Sto}
@[simp] theorem ws_nx (ρ : Ev) (S : Sto) (Q : Post) : WS (.nx ρ S) Q ↔ Q.nx ρ S := Iff.rfl
@[simp] theorem ws_rt (d : D) (S : Sto) (Q : Post) : WS (.rt d S) Q ↔ Q.rt d S := Iff.rfl
@[simp] theorem ws_bk (ρ : Ev) (S : Sto) (Q : Post) : WS (.bk ρ S) Q ↔ Q.bk ρ S := Iff.rfl
@[simp] theorem ws_ct (ρ : Ev) (S : Sto) (Q : Post) : WS (.ct ρ S) Q ↔ Q.ct ρ S := Iff.rfl
theorem WS.mono {r : SR} (h : WS r Q) (n : ∀ ρ S, Q.nx ρ S → Q'.nx ρ S) (t : ∀ d S, Q.rt d S → Q'.rt d S) (b : ∀ ρ S, Q.bk ρ S → Q'.bk ρ S) (c : ∀ ρ S, Q.ct ρ S → Q'.ct ρ S) (e : ∀ x ρ S, Q.ex x ρ S → Q'.ex x ρ S) : WS r Q' := by
  cases r with
  | stk => exact h
  | nx ρ S => exact n _ _ h
  | rt d S => exact t _ _ h
  | bk ρ S => exact b _ _ h
  | ct ρ S => exact c _ _ h
  | ex x ρ S => exact e _ _ _ h
/-- an expression in a statement -/
theorem ws_of {α : Type} {r : R α} {f : α → Sto → SR} (h : WP r fun a S1 => WS (f a S1) Q) : WS (r.bindS ρ f) Q := by
  obtain ⟨a, S1, e, h⟩ := h.elim
  rw [e]; exact h
theorem ws_seq {a b : SM} (h : WS (a ρ S) { Q with nx := fun ρ' S' => WS (b ρ' S') Q }) : WS (sSeq a b ρ S) Q := by
  unfold sSeq
  cases e : a ρ S with
  | stk => rw [e] at h; exact h
  | nx ρ' S' => rw [e] at h; exact h
  | rt d S' => rw [e] at h; exact h
  | bk ρ' S' => rw [e] at h; exact h
  | ct ρ' S' => rw [e] at h; exact h
  | ex x ρ' S' => rw [e] at h; exact h
theorem ws_next (h : Q.nx ρ S) : WS (sNext ρ S) Q := h
theorem ws_set {i : Nat} {m : EM} (h : WP (m ρ S) fun d S1 => Q.nx (ρ.set i (some d)) S1) : WS (sSet i m ρ S) Q := ws_of h
theorem ws_drop {m : EM} (h : WP (m ρ S) fun _ S1 => Q.nx ρ S1) : WS (sDrop m ρ S) Q := ws_of h
theorem ws_ret {m : EM} (h : WP (m ρ S) Q.rt) : WS (sRet m ρ S) Q := ws_of h
theorem ws_if {t : TM} {a b : SM} (h : WP (t ρ S) fun k S1 => (k = true → WS (a ρ S1) Q) ∧ (k = false → WS (b ρ S1) Q)) : WS (sIf t a b ρ S) Q := by
  refine ws_of (h.mono fun k S1 hk => ?_)
  cases k with
  | true => exact hk.1 rfl
  | false => exact hk.2 rfl
theorem ws_par {i j : Nat} {ms : AM} (h : WP (ms ρ S) fun ds S1 => ∃ a b, ds = [a, b] ∧ Q.nx ((ρ.set i (some a)).set j (some b)) S1) : WS (sPar i j ms ρ S) Q := by
  refine ws_of (h.mono fun ds S1 hh => ?_)
  obtain ⟨a, b, rfl, q⟩ := hh
  exact q
theorem ws_asg {t : Tg} {m : EM} (h : WP (m ρ S) fun d S1 => ∃ ρ', t.put d ρ = some ρ' ∧ Q.nx ρ' S1) : WS (sAsg t m ρ S) Q := by
  refine ws_of (h.mono fun d S1 hh => ?_)
  obtain ⟨ρ', e, q⟩ := hh
  rw [e]; exact q
theorem ws_sub {mo mi me : EM} (h : WP (me ρ S) fun v S1 => WP (mo ρ S1) fun o S2 => WP (mi ρ S2) fun i S3 => ∃ S4, dSet o i v S3 = some S4 ∧ Q.nx ρ S4) : WS (sSub mo mi me ρ S) Q := by
  refine ws_of (h.mono fun v S1 h => ws_of (h.mono fun o S2 h => ws_of (h.mono fun i S3 h => ?_)))
  obtain ⟨S4, e, q⟩ := h
  rw [e]; exact q
theorem wp_run {n : Nat} {m : SM} {ds : List D} {P : D → Sto → Prop} (h : WS (m (startE n ds) S) { nx := fun _ S' => P .non S', rt := P }) : WP (runB n m ds S) P := by
  unfold runB
  cases e : m (startE n ds) S with
  | stk => rw [e] at h; exact h
  | nx ρ' S' => rw [e] at h; exact h
  | rt d S' => rw [e] at h; exact h
  | bk ρ' S' => rw [e] at h; exact h.elim
  | ct ρ' S' => rw [e] at h; exact h.elim
  | ex x ρ' S' => rw [e] at h; exact h.elim

/-! ### for -/
theorem ws_loopF {s : Src} {t : Tg} {b : SM} (xs : List D) (J : Nat → Ev → Sto → Prop) (hat : ∀ i ρ S, J i ρ S → s.at_ i S = some xs[i]?)
    (step : ∀ i ρ S d, J i ρ S → xs[i]? = some d → ∃ ρ1, t.put d ρ = some ρ1 ∧ WS (b ρ1 S) { nx := J (i + 1), rt := Q.rt, ct := J (i + 1), bk := Q.nx, ex := Q.ex })
    (fin : ∀ ρ S, J xs.length ρ S → Q.nx ρ S) : ∀ (f i : Nat) (ρ : Ev) (S : Sto), J i ρ S → i ≤ xs.length → xs.length < i + f → WS (loopF s t b f i ρ S) Q
  | 0, i, ρ, S, j, hi, hf => by omega
  | f + 1, i, ρ, S, j, hi, hf => by
    unfold loopF
    rw [hat i ρ S j]
    cases e : xs[i]? with
    | none =>
      have : i = xs.length := Nat.le_antisymm hi (List.getElem?_eq_none_iff.mp e)
      subst this
      exact fin ρ S j
    | some d =>
      have hlt : i < xs.length := (List.getElem?_eq_some_iff.mp e).1
      obtain ⟨ρ1, e1, h⟩ := step i ρ S d j e
      simp only [e1]
      cases eb : b ρ1 S with
      | stk => rw [eb] at h; exact h
      | nx ρ' S' => rw [eb] at h; exact ws_loopF xs J hat step fin f (i + 1) ρ' S' h hlt (by omega)
      | ct ρ' S' => rw [eb] at h; exact ws_loopF xs J hat step fin f (i + 1) ρ' S' h hlt (by omega)
      | rt d S' => rw [eb] at h; exact h
      | bk ρ' S' => rw [eb] at h; exact h
      | ex x ρ' S' => rw [eb] at h; exact h
theorem ws_for {ms : IM} {t : Tg} {b : SM} (h : WP (ms ρ S) fun s S1 => ∃ (xs : List D) (J : Nat → Ev → Sto → Prop), J 0 ρ S1 ∧ xs.length < 2 ^ 24 ∧ (∀ i ρ S, J i ρ S → s.at_ i S = some xs[i]?) ∧
      (∀ i ρ S d, J i ρ S → xs[i]? = some d → ∃ ρ1, t.put d ρ = some ρ1 ∧ WS (b ρ1 S) { nx := J (i + 1), rt := Q.rt, ct := J (i + 1), bk := Q.nx, ex := Q.ex }) ∧ ∀ ρ S, J xs.length ρ S → Q.nx ρ S) : WS (sFor ms t b ρ S) Q := by
  refine ws_of (h.mono fun s S1 hh => ?_)
  obtain ⟨xs, J, j0, hl, hat, step, fin⟩ := hh
  exact ws_loopF xs J hat step fin FUEL 0 ρ S1 j0 (Nat.zero_le _) (by unfold FUEL; omega)
end

/-! ### comprehensions -/
theorem wp_loopC {s : Src} {t : Tg} {c : TM} {el : EM} {ρ0 : Ev} {a : Nat} {P : D → Sto → Prop} (xs : List D) (J : Nat → List D → Sto → Prop)
    (hat : ∀ i acc S, J i acc S → s.at_ i S = some xs[i]? ∧ acc.length ≤ i)
    (step : ∀ i acc S d, J i acc S → xs[i]? = some d → ∃ ρ1, t.put d ρ0 = some ρ1 ∧ WP (c ρ1 S) fun k S1 => (k = true → WP (el ρ1 S1) fun y S2 => S2[a]? = some (.lst acc) ∧ J (i + 1) (acc ++ [y]) (S2.set a (.lst (acc ++ [y])))) ∧ (k = false → J (i + 1) acc S1))
    (hl : xs.length < 2 ^ 24) (fin : ∀ acc S, J xs.length acc S → P (.ref a) S) : ∀ (f i : Nat) (acc : List D) (S : Sto), J i acc S → i ≤ xs.length → xs.length < i + f → WP (loopC s t c el ρ0 a f i S) P
  | 0, i, acc, S, j, hi, hf => by omega
  | f + 1, i, acc, S, j, hi, hf => by
    unfold loopC
    obtain ⟨ha, hacc⟩ := hat i acc S j
    rw [ha]
    cases e : xs[i]? with
    | none =>
      have : i = xs.length := Nat.le_antisymm hi (List.getElem?_eq_none_iff.mp e)
      subst this
      exact fin acc S j
    | some d =>
      have hlt : i < xs.length := (List.getElem?_eq_some_iff.mp e).1
      obtain ⟨ρ1, e1, h⟩ := step i acc S d j e
      obtain ⟨k, S1, ec, h⟩ := h.elim
      simp only [e1, ec]
      cases k with
      | false => exact wp_loopC xs J hat step hl fin f (i + 1) acc S1 (h.2 rfl) hlt (by omega)
      | true =>
        obtain ⟨y, S2, ee, h2, h3⟩ := (h.1 rfl).elim
        have hz : acc.length < sizeLine := by unfold sizeLine; omega
        simp only [ee, h2, if_pos hz]
        exact wp_loopC xs J hat step hl fin f (i + 1) _ _ h3 hlt (by omega)

/-! ### stores that go on -/
/-- all cells but those at A stay -/
def Stp (A : List Nat) (S S' : Sto) : Prop := S.length ≤ S'.length ∧ ∀ n x, n ∉ A → S[n]? = some x → S'[n]? = some x
section
variable {A B : List Nat} {S S' S'' : Sto}
theorem Stp.refl : Stp A S S := ⟨Nat.le_refl _, fun _ _ _ h => h⟩
theorem Stp.trans (h : Stp A S S') (q : Stp A S' S'') : Stp A S S'' := ⟨Nat.le_trans h.1 q.1, fun n x hn e => q.2 n x hn (h.2 n x hn e)⟩
theorem Stp.push {c : Cell} : Stp A S (S ++ [c]) := ⟨by simp, fun n x _ e => by rw [List.getElem?_append_left (List.getElem?_eq_some_iff.mp e).1]; exact e⟩
theorem Stp.set {n : Nat} {c : Cell} (h : n ∈ A) : Stp A S (S.set n c) := ⟨by simp, fun m x hm e => by rw [List.getElem?_set_ne (fun z : n = m => hm (z ▸ h))]; exact e⟩
theorem Stp.weak (h : Stp A S S') (hs : ∀ n, n ∈ A → n ∈ B) : Stp B S S' := ⟨h.1, fun n x hn e => h.2 n x (fun z => hn (hs n z)) e⟩
theorem Stp.nil (h : Stp [] S S') : Stp B S S' := h.weak fun n z => by cases z
theorem Stp.at_ (h : Stp A S S') {n : Nat} {c : Cell} (hn : n ∉ A) (e : S[n]? = some c) : S'[n]? = some c := h.2 n c hn e
/-- what is new may change -/
theorem Stp.new {n : Nat} {c : Cell} (h : Stp A S S') (hn : S.length ≤ n) : Stp A S (S'.set n c) := ⟨by simpa using h.1, fun m x hm e => by
  have : m < S.length := (List.getElem?_eq_some_iff.mp e).1
  rw [List.getElem?_set_ne (by omega)]; exact h.2 m x hm e⟩
theorem Stp.drop {n : Nat} (h : Stp (n :: A) S S') (hn : S.length ≤ n) : Stp A S S' := ⟨h.1, fun m x hm e => h.2 m x (fun z => by
  have : m < S.length := (List.getElem?_eq_some_iff.mp e).1
  rcases List.mem_cons.mp z with z | z
  · omega
  · exact hm z) e⟩
theorem seq_stp (h : Stp A S S') {n : Nat} (hn : n ∉ A) {xs : List D} (e : seqAt S n = some xs) : seqAt S' n = some xs := by
  unfold seqAt at e ⊢
  split at e
  · rename_i ys en; rw [h.2 n _ hn en]; exact e
  · rename_i ys en; rw [h.2 n _ hn en]; exact e
  · cases e
end
end DL

/-! the D-layer: the functions' equations; the hand and its draws -/
namespace DL
open PySem L2
section
variable {ρ : Ev} {S : Sto}
theorem r_C (d : D) : mC d ρ S = .ok d S := rfl
theorem r_V (i : Nat) : mVar i ρ S = match ρ[i]? with | some (some d) => .ok d S | _ => .stk := rfl
theorem r_Bin (f : DOp) (a b : EM) : mBin f a b ρ S = (a ρ S).bind fun x S1 => (b ρ S1).bind fun y S2 => ofO (f x y S2) := rfl
theorem r_Un (f : D → Sto → Option (D × Sto)) (a : EM) : mUn f a ρ S = (a ρ S).bind fun x S1 => ofO (f x S1) := rfl
theorem r_Nil : aNil ρ S = .ok [] S := rfl
theorem r_Cons (m : EM) (r : AM) : aCons m r ρ S = (m ρ S).bind fun x S1 => (r ρ S1).bind fun xs S2 => .ok (x :: xs) S2 := rfl
theorem r_Tup (ms : AM) : mTup ms ρ S = (ms ρ S).bind fun xs S1 => if xs.length ≤ sizeLine then .ok (.tup xs) S1 else .stk := rfl
theorem r_Lst (ms : AM) : mLst ms ρ S = (ms ρ S).bind fun xs S1 => if xs.length ≤ sizeLine then .ok (.ref S1.length) (S1 ++ [.lst xs]) else .stk := rfl
theorem r_Call (n : Nat) (F : FM) (ms : AM) : mCall n F ms ρ S = (ms ρ S).bind fun xs S1 => if xs.length = n then F xs S1 else .stk := rfl
theorem r_CallK (n : Nat) (F : FM) (perm : List (Bool × Nat)) (ms mk : AM) : mCallK n F perm ms mk ρ S = (ms ρ S).bind fun xs S1 => (mk ρ S1).bind fun ys S2 => if (pick perm xs ys).length = n then F (pick perm xs ys) S2 else .stk := rfl
theorem r_CB (f : DOps) (ms : AM) : mCB f ms ρ S = (ms ρ S).bind fun xs S1 => ofO (f xs S1) := rfl
theorem r_Mt (c : Rc) (f : DM) (mo : EM) (ms : AM) : mMt c f mo ms ρ S = (mo ρ S).bind fun o S1 => if c.is o S1 = true then (ms ρ S1).bind fun xs S2 => ofO (f o xs S2) else .stk := rfl
theorem r_Sl (m : EM) (l u : OM) : mSl m l u ρ S = (m ρ S).bind fun x S1 => (l ρ S1).bind fun lo S2 => (u ρ S2).bind fun hi S3 => ofO (dSl x lo hi S3) := rfl
theorem r_ON : oNone ρ S = .ok none S := rfl
theorem r_OS (m : EM) : oSome m ρ S = (m ρ S).bind fun d S1 => match d with | .int i => .ok (some i) S1 | _ => .stk := rfl
theorem r_Rev (m : EM) : mRev m ρ S = (m ρ S).bind fun d S1 => match d with
  | .ref n => match seqAt S1 n with
    | some xs => .ok (.ref S1.length) (S1 ++ [.lst xs.reverse])
    | none => .stk
  | _ => .stk := rfl
theorem r_Dct0 : mDct0 ρ S = .ok (.ref S.length) (S ++ [.dct []]) := rfl
theorem r_Dct (ks : List Str) (ms : AM) : mDct ks ms ρ S = (ms ρ (S ++ [.dct []])).bind fun xs S1 => match S1[S.length]? with
  | some (.dct []) => if (decide (ks.length ≤ 15) && decide (xs.length = ks.length)) = true then .ok (.ref S.length) (S1.set S.length (.dct (disp (ks.zip xs)))) else .stk
  | _ => .stk := rfl
theorem r_Tru (m : EM) : mTru m ρ S = (m ρ S).bind fun d S1 => match dTru d S1 with | some k => .ok k S1 | none => .stk := by
  unfold mTru
  congr 1
theorem r_Test (m : EM) : mTest m ρ S = (m ρ S).bind fun d S1 => match d with | .bl k => .ok k S1 | _ => .stk := rfl
theorem r_tAnd (a b : TM) : tAnd' a b ρ S = (a ρ S).bind fun k S1 => if k = true then b ρ S1 else .ok false S1 := rfl
theorem r_tOr (a b : TM) : tOr' a b ρ S = (a ρ S).bind fun k S1 => if k = true then .ok true S1 else b ρ S1 := rfl
theorem r_tNot (a : TM) : tNot' a ρ S = (a ρ S).bind fun k S1 => .ok (!k) S1 := rfl
theorem r_tTrue : tTrue ρ S = .ok true S := rfl
theorem r_And (a b : EM) : mAnd a b ρ S = (a ρ S).bind fun d S1 => match dTru d S1 with | none => .stk | some k => if k = true then b ρ S1 else .ok d S1 := rfl
theorem r_Or (a b : EM) : mOr a b ρ S = (a ρ S).bind fun d S1 => match dTru d S1 with | none => .stk | some k => if k = true then .ok d S1 else b ρ S1 := rfl
theorem r_Not (a : EM) : mNot a ρ S = (a ρ S).bind fun d S1 => match dTru d S1 with | none => .stk | some k => .ok (.bl (!k)) S1 := rfl
theorem r_If (t : TM) (a b : EM) : mIf t a b ρ S = (t ρ S).bind fun k S1 => if k = true then a ρ S1 else b ρ S1 := rfl
theorem r_Chain (f g : DOp) (a b c : EM) : mChain f g a b c ρ S = (a ρ S).bind fun x S1 => (b ρ S1).bind fun y S2 => (ofO (f x y S2)).bind fun z S3 => match z with
  | .bl true => (c ρ S3).bind fun w S4 => ofO (g y w S4)
  | .bl false => .ok (.bl false) S3
  | _ => .stk := rfl
theorem r_iAny (m : EM) : iAny m ρ S = (m ρ S).bind fun d S1 => match d with
  | .ref n => if (seqAt S1 n).isSome = true then .ok (.lst n) S1 else .stk
  | .tup xs => .ok (.tup xs) S1
  | .str x => .ok (.str x) S1
  | _ => .stk := rfl
theorem r_iRg1 (ms : AM) : iRg1 ms ρ S = (ms ρ S).bind fun ds S1 => match ds with
  | [.int j] => if inR j = true then .ok (.rng 0 j.toNat) S1 else .stk
  | _ => .stk := rfl
theorem r_Lc (ms : IM) (t : Tg) (c : TM) (el : EM) (vs : List Nat) : mLc ms t c el vs ρ S = (ms ρ S).bind fun s S1 => loopC s t c el (wipeE ρ vs) S1.length FUEL 0 (S1 ++ [.lst []]) := rfl
end
theorem ofO_map {α β : Type} (o : Option α) (f : α → β) (S : Sto) : (ofO (o.map fun b => (f b, S)) : R β) = match o with | some b => .ok (f b) S | none => .stk := by cases o <;> rfl
theorem g0 {α : Type} (a : α) (l : List α) : (a :: l)[0]? = some a := rfl
theorem gs {α : Type} (a : α) (l : List α) (n : Nat) : (a :: l)[n + 1]? = l[n]? := rfl
theorem st0 {α : Type} (a b : α) (l : List α) : (a :: l).set 0 b = b :: l := rfl
theorem sts {α : Type} (a b : α) (l : List α) (n : Nat) : (a :: l).set (n + 1) b = a :: l.set n b := rfl
theorem g1 {α : Type} (a b : α) (l : List α) : (a :: b :: l)[1]? = some b := rfl
theorem g2 {α : Type} (a b c : α) (l : List α) : (a :: b :: c :: l)[2]? = some c := rfl
theorem g3 {α : Type} (a b c d : α) (l : List α) : (a :: b :: c :: d :: l)[3]? = some d := rfl
theorem g4 {α : Type} (a b c d e : α) (l : List α) : (a :: b :: c :: d :: e :: l)[4]? = some e := rfl
theorem g5 {α : Type} (a b c d e f : α) (l : List α) : (a :: b :: c :: d :: e :: f :: l)[5]? = some f := rfl
theorem g6 {α : Type} (a b c d e f g : α) (l : List α) : (a :: b :: c :: d :: e :: f :: g :: l)[6]? = some g := rfl
theorem t1 {α : Type} (a b x : α) (l : List α) : (a :: b :: l).set 1 x = a :: x :: l := rfl
theorem t2 {α : Type} (a b c x : α) (l : List α) : (a :: b :: c :: l).set 2 x = a :: b :: x :: l := rfl
theorem t3 {α : Type} (a b c d x : α) (l : List α) : (a :: b :: c :: d :: l).set 3 x = a :: b :: c :: x :: l := rfl
theorem t4 {α : Type} (a b c d e x : α) (l : List α) : (a :: b :: c :: d :: e :: l).set 4 x = a :: b :: c :: d :: x :: l := rfl
theorem t5 {α : Type} (a b c d e f x : α) (l : List α) : (a :: b :: c :: d :: e :: f :: l).set 5 x = a :: b :: c :: d :: e :: x :: l := rfl
theorem t6 {α : Type} (a b c d e f g x : α) (l : List α) : (a :: b :: c :: d :: e :: f :: g :: l).set 6 x = a :: b :: c :: d :: e :: f :: x :: l := rfl

/-! ### the hand -/
abbrev kC : Key := Sum.inr (Str.ofString "cells")
abbrev kM : Key := Sum.inr (Str.ofString "mixed")
abbrev kD : Key := Sum.inr (Str.ofString "draws")
/-- a hand at h, its cells at c -/
def Hand (h c : Nat) (S : Sto) : Prop := h ≠ c ∧ ∃ (ns : List Int) (m d : Int), ns.length ≤ 63 ∧ S[h]? = some (.dct [(kC, .ref c), (kM, .int m), (kD, .int d)]) ∧ S[c]? = some (.lst (ns.map D.int))
/-- the hand has gone on, all else stays -/
def Adv (h c : Nat) (S S' : Sto) : Prop := Hand h c S' ∧ Stp [h, c] S S'
theorem Adv.trans {h c : Nat} {S S' S'' : Sto} (a : Adv h c S S') (b : Adv h c S' S'') : Adv h c S S'' := ⟨b.1, a.2.trans b.2⟩
theorem Adv.refl {h c : Nat} {S : Sto} (a : Hand h c S) : Adv h c S S := ⟨a, .refl⟩
theorem Hand.lt {h c : Nat} {S : Sto} (a : Hand h c S) : h < S.length ∧ c < S.length := by
  obtain ⟨_, ns, m, d, _, e1, e2⟩ := a
  exact ⟨(List.getElem?_eq_some_iff.mp e1).1, (List.getElem?_eq_some_iff.mp e2).1⟩
/-- what doesn't touch the hand -/
theorem Hand.stp {h c : Nat} {S S' : Sto} (a : Hand h c S) (x : Stp [] S S') : Adv h c S S' := by
  refine ⟨?_, x.nil⟩
  obtain ⟨hne, ns, m, d, hl, e1, e2⟩ := a
  exact ⟨hne, ns, m, d, hl, x.at_ (by simp) e1, x.at_ (by simp) e2⟩
theorem nCM : (kC = kM) = False := by simp only [eq_iff_iff, iff_false]; decide
theorem nCD : (kC = kD) = False := by simp only [eq_iff_iff, iff_false]; decide
theorem nMD : (kM = kD) = False := by simp only [eq_iff_iff, iff_false]; decide
theorem hand_c {n m d : D} : valD [(kC, n), (kM, m), (kD, d)] kC = some n := rfl
theorem hand_m {n m d : D} : valD [(kC, n), (kM, m), (kD, d)] kM = some m := rfl
theorem hand_d {n m d : D} : valD [(kC, n), (kM, m), (kD, d)] kD = some d := rfl
theorem put_d {n m d x : D} : putD [(kC, n), (kM, m), (kD, d)] kD x = [(kC, n), (kM, m), (kD, x)] := rfl
theorem ix_dct {S : Sto} {n : Nat} {kvs : List (Key × D)} {x : Str} {d : D} (e : S[n]? = some (.dct kvs)) (v : valD kvs (Sum.inr x) = some d) : dIx (.ref n) (.str x) S = some (d, S) := by
  unfold dIx
  simp only [e, keyD, Option.bind_some, v, Option.map_some]
theorem set_dct {S : Sto} {n : Nat} {kvs : List (Key × D)} {x : Str} {d : D} (e : S[n]? = some (.dct kvs)) (l : kvs.length < sizeLine) : dSet (.ref n) (.str x) d S = some (S.set n (.dct (putD kvs (Sum.inr x) d))) := by
  unfold dSet
  simp only [e, keyD, Option.bind_some, if_pos l]
/-- what is drawn: the general text -/
def mDraw (a1 a2 a3 a4 a5 a6 a7 a8 a9 : Int) : SM := sSeq (sSub (mVar 0) (mC (.str "draws")) (mBin dAdd (mBin dIx (mVar 0) (mC (.str "draws"))) (mC (.int 1))))
    (sSeq (sSet 2 (mBin dAdd (mBin dIx (mVar 0) (mC (.str "mixed"))) (mBin dMul (mC (.int a1)) (mBin dIx (mVar 0) (mC (.str "draws"))))))
    (sSeq (sIf (mTest (mBin dNe (mBin dIx (mVar 0) (mC (.str "cells"))) (mLst (aNil)))) (sSeq (sSet 3 (mMt .lst dPop (mBin dIx (mVar 0) (mC (.str "cells"))) aNil))
    (sSeq (sIf (mTest (mBin dGe (mVar 3) (mBin dPow (mC (.int 10)) (mC (.int 18))))) (sSeq (sDrop (mMt .lst dAppend (mBin dIx (mVar 0) (mC (.str "cells"))) (aCons (mBin dFdiv (mVar 3) (mVar 1)) (aNil))))
    (sRet (mBin dMod (mVar 3) (mVar 1)))) (sNext))
    (sSet 2 (mBin dAdd (mVar 2) (mVar 3))))) (sNext))
    (sSeq (sSet 2 (mBin dMod (mBin dMul (mBin dMod (mVar 2) (mC (.int a2))) (mC (.int a3))) (mC (.int a4))))
    (sSeq (sSet 2 (mBin dMod (mBin dAdd (mBin dAdd (mBin dMul (mVar 2) (mVar 2)) (mBin dMul (mC (.int a5)) (mBin dIx (mVar 0) (mC (.str "draws"))))) (mC (.int a6))) (mC (.int a7))))
    (sRet (mBin dMod (mBin dFdiv (mBin dMod (mBin dMul (mVar 2) (mC (.int a8))) (mC (.int a9))) (mC (.int 32))) (mVar 1)))))))
theorem mod_small {i m : Int} (h1 : 0 < m) (h2 : m < 2 ^ 62) : -(2 ^ 64) < i.fmod m ∧ i.fmod m < 2 ^ 64 := by
  have a := Int.fmod_nonneg_of_pos i h1
  have b := Int.fmod_lt_of_pos i h1
  omega
section
variable {a1 a2 a3 a4 a5 a6 a7 a8 a9 : Int}
/-- the numbers of the text are small -/
def inS (a : Int) : Bool := decide (-(2 ^ 64) < a) && decide (a < 2 ^ 64)
def DrawOk (a1 a2 a3 a4 a5 a6 a7 a8 a9 : Int) : Bool := inS a1 && inS a3 && inS a5 && inS a8 && decide (a2 ≠ 0) && decide (0 < a4) && decide (a4 < 2 ^ 62) && decide (a7 ≠ 0) && decide (a9 ≠ 0)
theorem cMul_l {i j : Int} (h : -(2 ^ 64) < i ∧ i < 2 ^ 64) : cMul i j = true := by
  unfold cMul; simp only [Bool.or_eq_true, Bool.and_eq_true, decide_eq_true_eq]; exact .inl h
theorem cMul_r {i j : Int} (h : -(2 ^ 64) < j ∧ j < 2 ^ 64) : cMul i j = true := by
  unfold cMul; simp only [Bool.or_eq_true, Bool.and_eq_true, decide_eq_true_eq]; exact .inr h
theorem ne_nil {S : Sto} {c n : Nat} {xs : List D} (e : S[c]? = some (.lst xs)) (e2 : S[n]? = some (.lst [])) : dNe (.ref c) (.ref n) S = some (.bl (!xs.isEmpty), S) := by
  have a : seqAt S c = some xs := by unfold seqAt; rw [e]
  have b : seqAt S n = some [] := by unfold seqAt; rw [e2]
  unfold dNe eqD eq0
  simp only [a, b, List.isEmpty_nil, Bool.or_true, if_true, Bool.and_true, Option.map_some]
theorem rc_lst {S : Sto} {n : Nat} {xs : List D} (e : S[n]? = some (.lst xs)) : Rc.is .lst (.ref n) S = true := by
  show (seqAt S n).isSome = true
  unfold seqAt
  rw [e]; rfl
theorem last_ints {ns : List Int} (h : ns ≠ []) : ∃ i, (ns.map D.int)[(ns.map D.int).length - 1]? = some (.int i) ∧ (ns.map D.int).dropLast = ns.dropLast.map D.int := by
  refine ⟨ns.getLast h, ?_, by simp⟩
  rw [List.getElem?_map, List.length_map]
  rw [List.getElem?_eq_getElem (by have := List.length_pos_iff.mpr h; omega), List.getLast_eq_getElem]
  rfl
theorem draw_ok (ok : DrawOk a1 a2 a3 a4 a5 a6 a7 a8 a9 = true) {h c : Nat} {k : Int} {S : Sto} (H : Hand h c S) (hk : 0 < k) (hk2 : k < 1073741824) :
    WP (runB 4 (mDraw a1 a2 a3 a4 a5 a6 a7 a8 a9) [.ref h, .int k] S) fun r S' => ∃ i, r = .int i ∧ 0 ≤ i ∧ i < k ∧ Adv h c S S' := by
  simp only [DrawOk, Bool.and_eq_true, decide_eq_true_eq] at ok
  obtain ⟨⟨⟨⟨⟨⟨⟨⟨o1, o3⟩, o5⟩, o8⟩, o2⟩, o4⟩, o4'⟩, o7⟩, o9⟩ := ok
  have ins : ∀ {a : Int}, inS a = true → -(2 ^ 64) < a ∧ a < 2 ^ 64 := fun {a} hh => by
    unfold inS at hh
    simpa only [Bool.and_eq_true, decide_eq_true_eq] using hh
  have m1 : ∀ j, cMul a1 j = true := fun j => cMul_l (ins o1)
  have m3 : ∀ j, cMul j a3 = true := fun j => cMul_r (ins o3)
  have m5 : ∀ j, cMul a5 j = true := fun j => cMul_l (ins o5)
  have m8 : ∀ j, cMul j a8 = true := fun j => cMul_r (ins o8)
  have mm : ∀ j : Int, cMul (j.fmod a4) (j.fmod a4) = true := fun j => cMul_l (mod_small o4 o4')
  obtain ⟨hne, ns, m, d, hl, e1, e2⟩ := H
  obtain ⟨lh, lc⟩ := (show h < S.length ∧ c < S.length from ⟨(List.getElem?_eq_some_iff.mp e1).1, (List.getElem?_eq_some_iff.mp e2).1⟩)
  have dmod : ∀ (i j : Int) (T : Sto), j ≠ 0 → dMod (.int i) (.int j) T = some (.int (i.fmod j), T) := fun i j T hj => by
    unfold dMod dI
    simp only [decide_eq_true_eq, if_pos hj]
  have dmul : ∀ (i j : Int) (T : Sto), cMul i j = true → dMul (.int i) (.int j) T = some (.int (i * j), T) := fun i j T hj => by
    unfold dMul
    simp only [if_pos hj]
  have dadd : ∀ (i j : Int) (T : Sto), dAdd (.int i) (.int j) T = some (.int (i + j), T) := fun i j T => rfl
  have dfdiv : ∀ (i j : Int) (T : Sto), j ≠ 0 → j.natAbs < 1073741824 → dFdiv (.int i) (.int j) T = some (.int (i.fdiv j), T) := fun i j T hj h2 => by
    unfold dFdiv dI
    simp only [Bool.and_eq_true, decide_eq_true_eq, if_pos (And.intro hj h2)]
  have hk0 : k ≠ 0 := by omega
  -- the end
  have tail : ∀ (T : Sto) (x : Int) (y : Option D), Hand h c T → Stp [h, c] S T →
      WS ((sSeq (sSet 2 (mBin dMod (mBin dMul (mBin dMod (mVar 2) (mC (.int a2))) (mC (.int a3))) (mC (.int a4))))
    (sSeq (sSet 2 (mBin dMod (mBin dAdd (mBin dAdd (mBin dMul (mVar 2) (mVar 2)) (mBin dMul (mC (.int a5)) (mBin dIx (mVar 0) (mC (.str "draws"))))) (mC (.int a6))) (mC (.int a7))))
    (sRet (mBin dMod (mBin dFdiv (mBin dMod (mBin dMul (mVar 2) (mC (.int a8))) (mC (.int a9))) (mC (.int 32))) (mVar 1))))) [some (.ref h), some (.int k), some (.int x), y] T)
      { nx := fun _ S' => ∃ i, (D.non) = .int i ∧ 0 ≤ i ∧ i < k ∧ Adv h c S S', rt := fun r S' => ∃ i, r = .int i ∧ 0 ≤ i ∧ i < k ∧ Adv h c S S' } := fun T x y HT st => by
    obtain ⟨_, ns', m', d', hl', f1, f2⟩ := id HT
    refine ws_seq (ws_set ?_)
    simp only [r_Bin, r_V, r_C, g0, g1, g2, bind_ok, dmod _ _ _ o2, dmul _ _ _ (m3 _), dmod _ _ _ (show a4 ≠ 0 by omega), ofO_some, wp_ok, t2]
    refine ws_seq (ws_set ?_)
    simp only [r_Bin, r_V, r_C, g0, g1, g2, bind_ok, dmul _ _ _ (mm _), ix_dct f1 hand_d, dmul _ _ _ (m5 _), dadd, dmod _ _ _ o7, ofO_some, wp_ok, t2]
    refine ws_ret ?_
    simp only [r_Bin, r_V, r_C, g0, g1, g2, bind_ok, dmul _ _ _ (m8 _), dmod _ _ _ o9, dfdiv _ _ _ (show (32 : Int) ≠ 0 by decide) (by decide), dmod _ _ _ hk0, ofO_some, wp_ok]
    exact ⟨_, rfl, Int.fmod_nonneg_of_pos _ hk, Int.fmod_lt_of_pos _ hk, HT, st⟩
  refine wp_run (ws_seq (ws_sub ?_))
  simp only [startE, List.map_cons, List.map_nil, List.length_cons, List.length_nil, List.cons_append, List.nil_append, List.replicate, r_Bin, r_V, r_C, g0, g1, bind_ok, ix_dct e1 hand_d, dadd, ofO_some, wp_ok]
  refine ⟨_, set_dct e1 (by simp only [List.length_cons, List.length_nil]; decide), ?_⟩
  have e1' : (S.set h (.dct (putD [(kC, .ref c), (kM, .int m), (kD, .int d)] kD (.int (d + 1)))))[h]? = some (.dct [(kC, .ref c), (kM, .int m), (kD, .int (d + 1))]) := by
    rw [List.getElem?_set_self lh]; rfl
  have e2' : (S.set h (.dct (putD [(kC, .ref c), (kM, .int m), (kD, .int d)] kD (.int (d + 1)))))[c]? = some (.lst (ns.map D.int)) := by
    rw [List.getElem?_set_ne hne]; exact e2
  have st0 : Stp [h, c] S (S.set h (.dct (putD [(kC, .ref c), (kM, .int m), (kD, .int d)] kD (.int (d + 1))))) := .set (by simp)
  generalize (S.set h (.dct (putD [(kC, .ref c), (kM, .int m), (kD, .int d)] kD (.int (d + 1))))) = S1 at e1' e2' st0 ⊢
  refine ws_seq (ws_set ?_)
  simp only [r_Bin, r_V, r_C, g0, g1, bind_ok, ix_dct e1' hand_m, ix_dct e1' hand_d, dmul _ _ _ (m1 _), dadd, ofO_some, wp_ok, t2]
  refine ws_seq (ws_if ?_)
  -- the list to compare with
  have e1'' : (S1 ++ [.lst []])[h]? = some (.dct [(kC, .ref c), (kM, .int m), (kD, .int (d + 1))]) := (Stp.push (A := [])).at_ (by simp) e1'
  have e2'' : (S1 ++ [.lst []])[c]? = some (.lst (ns.map D.int)) := (Stp.push (A := [])).at_ (by simp) e2'
  have st1 : Stp [h, c] S (S1 ++ [.lst []]) := st0.trans .push
  have en : (S1 ++ [Cell.lst []])[S1.length]? = some (.lst []) := by simp
  have zl : ([] : List D).length ≤ sizeLine := Nat.zero_le _
  simp only [r_Test, r_Bin, r_V, r_C, r_Lst, r_Nil, g0, g1, bind_ok, ix_dct e1' hand_c, if_pos zl, ne_nil e2'' en, ofO_some, wp_ok]
  clear en
  generalize (S1 ++ [Cell.lst []]) = S2 at e1'' e2'' st1 ⊢
  constructor
  · -- a cell is taken
    intro hz
    have nz : ns ≠ [] := by
      intro z; subst z; simp at hz
    obtain ⟨i, hi, hd⟩ := last_ints nz
    refine ws_seq (ws_set ?_)
    have hr : Rc.is .lst (.ref c) S2 = true := rc_lst e2''
    have hp : dPop (.ref c) [] S2 = some (.int i, S2.set c (.lst (ns.dropLast.map D.int))) := by
      unfold dPop
      simp only [e2'', hi, hd, Option.map_some]
    simp only [r_Mt, r_Bin, r_V, r_C, r_Nil, g0, g1, bind_ok, ix_dct e1'' hand_c, if_pos hr, hp, ofO_some, wp_ok, t3]
    have lc2 : c < S2.length := (List.getElem?_eq_some_iff.mp e2'').1
    have f1 : (S2.set c (.lst (ns.dropLast.map D.int)))[h]? = some (.dct [(kC, .ref c), (kM, .int m), (kD, .int (d + 1))]) := by rw [List.getElem?_set_ne (Ne.symm hne)]; exact e1''
    have f2 : (S2.set c (.lst (ns.dropLast.map D.int)))[c]? = some (.lst (ns.dropLast.map D.int)) := List.getElem?_set_self lc2
    have st2 : Stp [h, c] S (S2.set c (.lst (ns.dropLast.map D.int))) := st1.trans (.set (by simp))
    have nl : ns.dropLast.length ≤ 62 := by rw [List.length_dropLast]; omega
    generalize S2.set c (.lst (ns.dropLast.map D.int)) = S3 at f1 f2 st2 ⊢
    have dpow : dPow (.int 10) (.int 18) S3 = some (.int (10 ^ 18), S3) := rfl
    have dge : ∀ j : Int, dGe (.int i) (.int j) S3 = some (.bl (decide (j ≤ i)), S3) := fun j => rfl
    refine ws_seq (ws_if ?_)
    simp only [r_Test, r_Bin, r_V, r_C, g0, g1, g2, g3, bind_ok, dpow, dge, ofO_some, wp_ok]
    constructor
    · intro _
      refine ws_seq (ws_drop ?_)
      have hr : Rc.is .lst (.ref c) S3 = true := rc_lst f2
      have hz2 : (ns.dropLast.map D.int).length < sizeLine := by rw [List.length_map]; exact Nat.lt_of_le_of_lt nl (by decide)
      have hp : dAppend (.ref c) [.int (i.fdiv k)] S3 = some (.non, S3.set c (.lst ((ns.dropLast ++ [i.fdiv k]).map D.int))) := by
        unfold dAppend
        simp only [f2, if_pos hz2, List.map_append, List.map_cons, List.map_nil]
      have hf := dfdiv i k S3 hk0 (by omega)
      simp only [r_Mt, r_Bin, r_V, r_C, r_Nil, r_Cons, g0, g1, g2, g3, bind_ok, ix_dct f1 hand_c, if_pos hr, hf, hp, ofO_some, wp_ok]
      refine ws_ret ?_
      simp only [r_Bin, r_V, r_C, g0, g1, g2, g3, bind_ok, dmod _ _ _ hk0, ofO_some, wp_ok]
      refine ⟨_, rfl, Int.fmod_nonneg_of_pos _ hk, Int.fmod_lt_of_pos _ hk, ⟨hne, ns.dropLast ++ [i.fdiv k], m, d + 1, ?_, ?_, ?_⟩, st2.trans (.set (by simp))⟩
      · rw [List.length_append]; simp only [List.length_cons, List.length_nil]; omega
      · rw [List.getElem?_set_ne (Ne.symm hne)]; exact f1
      · exact List.getElem?_set_self (List.getElem?_eq_some_iff.mp f2).1
    · intro _
      refine ws_next ?_
      dsimp only
      refine ws_set ?_
      simp only [r_Bin, r_V, r_C, g0, g1, g2, g3, bind_ok, dadd, ofO_some, wp_ok, t2]
      exact tail S3 _ _ ⟨hne, ns.dropLast, m, d + 1, by omega, f1, f2⟩ st2
  · intro _
    refine ws_next ?_
    exact tail S2 _ _ ⟨hne, ns, m, d + 1, hl, e1'', e2''⟩ st1
end
end DL

/-! the D-layer: the hand is made -/
namespace DL
open PySem L2
theorem d_mod (i j : Int) (T : Sto) (hj : j ≠ 0) : dMod (.int i) (.int j) T = some (.int (i.fmod j), T) := by
  unfold dMod dI
  simp only [decide_eq_true_eq, if_pos hj]
theorem d_mul (i j : Int) (T : Sto) (hj : cMul i j = true) : dMul (.int i) (.int j) T = some (.int (i * j), T) := by
  unfold dMul
  simp only [if_pos hj]
theorem d_add (i j : Int) (T : Sto) : dAdd (.int i) (.int j) T = some (.int (i + j), T) := rfl
theorem d_sub (i j : Int) (T : Sto) : dSub (.int i) (.int j) T = some (.int (i - j), T) := rfl
theorem d_fdiv (i j : Int) (T : Sto) (hj : j ≠ 0) (h2 : j.natAbs < 1073741824) : dFdiv (.int i) (.int j) T = some (.int (i.fdiv j), T) := by
  unfold dFdiv dI
  simp only [Bool.and_eq_true, decide_eq_true_eq, if_pos (And.intro hj h2)]
theorem ins_of {a : Int} (hh : inS a = true) : -(2 ^ 64) < a ∧ a < 2 ^ 64 := by
  unfold inS at hh
  simpa only [Bool.and_eq_true, decide_eq_true_eq] using hh
def mHand (b0 b1 b2 b3 b4 : Int) : SM := sSeq (sPar 2 3 (aCons (mCB bList (aCons (mSl (mVar 0) (oNone) (oSome (mC (.int 63)))) (aNil))) (aCons (mC (.int b0)) (aNil))))
    (sSeq (sFor (iAny (mVar 2)) (.nm 1) (sSet 3 (mBin dMod (mBin dAdd (mBin dAdd (mBin dMul (mVar 3) (mC (.int b1))) (mBin dMod (mVar 1) (mC (.int b2)))) (mC (.int b3))) (mC (.int b4)))))
    (sRet (mDct ["cells", "mixed", "draws"] (aCons (mRev (mVar 2)) (aCons (mVar 3) (aCons (mC (.int 0)) (aNil)))))))
def HandOk (b1 b2 b4 : Int) : Bool := inS b1 && decide (b2 ≠ 0) && decide (b4 ≠ 0)
theorem cut_ints (ns : List Int) (lo hi : Option Int) : ∃ ms : List Int, cutD (ns.map D.int) lo hi = ms.map D.int ∧ ms.length ≤ ns.length := by
  refine ⟨(ns.drop (HT.sIx ns.length 0 lo)).take (HT.sIx ns.length ns.length hi - HT.sIx ns.length 0 lo), ?_, ?_⟩
  · unfold cutD
    rw [List.length_map, List.map_take, List.map_drop]
  · rw [List.length_take, List.length_drop]; omega
theorem hand_ok {b0 b1 b2 b3 b4 : Int} (ok : HandOk b1 b2 b4 = true) {ns : List Int} (hn : ns.length ≤ 63) :
    WP (runB 4 (mHand b0 b1 b2 b3 b4) [.ref 0] [.fz (ns.map D.int)]) fun r S' => ∃ h c, r = .ref h ∧ Hand h c S' := by
  simp only [HandOk, Bool.and_eq_true, decide_eq_true_eq] at ok
  obtain ⟨⟨o1, o2⟩, o4⟩ := ok
  obtain ⟨ms, em, lm⟩ := cut_ints ns none (some 63)
  have m1 : ∀ j, cMul j b1 = true := fun j => cMul_r (ins_of o1)
  refine wp_run (ws_seq (ws_par ?_))
  have es : seqAt [Cell.fz (ns.map D.int)] 0 = some (ns.map D.int) := rfl
  have e1 : dSl (.ref 0) none (some 63) [Cell.fz (ns.map D.int)] = some (.ref 1, [.fz (ns.map D.int), .lst (ms.map D.int)]) := by
    unfold dSl
    simp only [es, Option.map_some, em]
    rfl
  have e2 : bList [.ref 1] [.fz (ns.map D.int), .lst (ms.map D.int)] = some (.ref 2, [.fz (ns.map D.int), .lst (ms.map D.int), .lst (ms.map D.int)]) := rfl
  simp only [startE, List.map_cons, List.map_nil, List.length_cons, List.length_nil, List.cons_append, List.nil_append, List.replicate, r_Cons, r_Nil, r_CB, r_Sl, r_ON, r_OS, r_V, r_C, g0, bind_ok, e1, e2, ofO_some, wp_ok]
  refine ⟨_, _, rfl, ws_seq ?_⟩
  have eq2 : seqAt [.fz (ns.map D.int), .lst (ms.map D.int), .lst (ms.map D.int)] 2 = some (ms.map D.int) := rfl
  have tail : ∀ (x : Option D) (m : Int), WS (sRet (mDct ["cells", "mixed", "draws"] (aCons (mRev (mVar 2)) (aCons (mVar 3) (aCons (mC (.int 0)) (aNil))))) [some (.ref 0), x, some (.ref 2), some (.int m)] [.fz (ns.map D.int), .lst (ms.map D.int), .lst (ms.map D.int)])
      { nx := fun _ S' => ∃ h c, D.non = .ref h ∧ Hand h c S', rt := fun r S' => ∃ h c, r = .ref h ∧ Hand h c S' } := fun x m => by
    refine ws_ret ?_
    have eq3 : seqAt ([.fz (ns.map D.int), .lst (ms.map D.int), .lst (ms.map D.int)] ++ [Cell.dct []]) 2 = some (ms.map D.int) := rfl
    simp only [r_Dct, r_Cons, r_Nil, r_Rev, r_V, r_C, g0, g1, g2, g3, bind_ok, eq3, wp_ok]
    refine ⟨3, 4, rfl, by decide, ms.reverse, m, 0, by rw [List.length_reverse]; omega, rfl, ?_⟩
    show some (Cell.lst (ms.map D.int).reverse) = some (.lst (ms.reverse.map D.int))
    rw [List.map_reverse]
  refine ws_for ?_
  simp only [r_iAny, r_V, t2, t3, g0, g1, g2, g3, bind_ok, eq2, Option.isSome_some, if_true, wp_ok]
  refine ⟨ms.map D.int, fun i ρ S => ∃ (x : Option D) (m : Int), ρ = [some (.ref 0), x, some (.ref 2), some (.int m)] ∧ S = [.fz (ns.map D.int), .lst (ms.map D.int), .lst (ms.map D.int)], ⟨none, _, rfl, rfl⟩, ?_, ?_, ?_, ?_⟩
  · rw [List.length_map]
    exact Nat.lt_of_le_of_lt (Nat.le_trans lm hn) (by decide)
  · rintro i ρ S ⟨x, m, rfl, rfl⟩
    unfold Src.at_
    simp only [eq2, Option.map_some]
  · rintro i ρ S d ⟨x, m, rfl, rfl⟩ hd
    rw [List.getElem?_map] at hd
    obtain ⟨j, _, rfl⟩ := Option.map_eq_some_iff.mp hd
    refine ⟨_, rfl, ws_set ?_⟩
    simp only [r_Bin, r_V, r_C, t1, t2, t3, g0, g1, g2, g3, bind_ok, d_mul _ _ _ (m1 _), d_mod _ _ _ o2, d_mod _ _ _ o4, d_add, ofO_some, wp_ok]
    exact ⟨_, _, rfl, trivial⟩
  · rintro ρ S ⟨x, m, rfl, rfl⟩
    exact tail x m
end DL

/-! the D-layer: what is read of data, and how long its text is -/
namespace DL
open PySem L2

/-! ### reading, the cells at A left out -/
def gQ (A : List Nat) : Nat → Sto → Nat → Option PyData
  | 0, _, _ => none
  | k + 1, S, n => if n ∈ A then none else match S[n]? with
    | some (.lst xs) => (toPws (gQ A k S) xs).map .list
    | some (.fz xs) => (toPws (gQ A k S) xs).map .list
    | some (.dct kvs) => (toPws (gQ A k S) (kvs.map (·.2))).map fun ps => .dict ((kvs.map fun kv => keyP kv.1).zip ps)
    | _ => none
def see (A : List Nat) (k : Nat) (S : Sto) (d : D) : Option PyData := toPw (gQ A k S) d
def sees (A : List Nat) (k : Nat) (S : Sto) (ds : List D) : Option (List PyData) := toPws (gQ A k S) ds
mutual
theorem toPw_mono {g g' : Nat → Option PyData} (h : ∀ n p, g n = some p → g' n = some p) : ∀ {d : D} {p : PyData}, toPw g d = some p → toPw g' d = some p
  | .non, p, e => by simpa only [toPw] using e
  | .bl b, p, e => by simpa only [toPw] using e
  | .int i, p, e => by simpa only [toPw] using e
  | .str x, p, e => by simpa only [toPw] using e
  | .raw u, p, e => by simp only [toPw] at e; cases e
  | .ref n, p, e => by simp only [toPw] at e ⊢; exact h _ _ e
  | .tup xs, p, e => by
    simp only [toPw] at e ⊢
    obtain ⟨ps, e1, rfl⟩ := Option.map_eq_some_iff.mp e
    rw [toPws_mono h e1]; rfl
theorem toPws_mono {g g' : Nat → Option PyData} (h : ∀ n p, g n = some p → g' n = some p) : ∀ {ds : List D} {ps : List PyData}, toPws g ds = some ps → toPws g' ds = some ps
  | [], ps, e => by simpa only [toPws] using e
  | d :: ds, ps, e => by
    simp only [toPws] at e ⊢
    obtain ⟨p, e1, e2⟩ := Option.bind_eq_some_iff.mp e
    obtain ⟨qs, e3, rfl⟩ := Option.map_eq_some_iff.mp e2
    rw [toPw_mono h e1, Option.bind_some, toPws_mono h e3]; rfl
end
theorem gQ_move {A B : List Nat} {S S' : Sto} (h : ∀ n x, n ∉ A → S[n]? = some x → n ∉ B ∧ S'[n]? = some x) : ∀ {k k' n : Nat} {p : PyData}, k ≤ k' → gQ A k S n = some p → gQ B k' S' n = some p
  | 0, _, _, _, _, e => by simp only [gQ] at e; cases e
  | k + 1, 0, _, _, hk, _ => by omega
  | k + 1, k' + 1, n, p, hk, e => by
    have ih : ∀ n p, gQ A k S n = some p → gQ B k' S' n = some p := fun n p => gQ_move h (by omega)
    unfold gQ at e ⊢
    split at e
    · cases e
    · rename_i hn
      split at e
      · rename_i xs ex
        obtain ⟨h1, h2⟩ := h n _ hn ex
        obtain ⟨ps, e1, rfl⟩ := Option.map_eq_some_iff.mp e
        rw [if_neg h1, h2]
        simp only [toPws_mono ih e1, Option.map_some]
      · rename_i xs ex
        obtain ⟨h1, h2⟩ := h n _ hn ex
        obtain ⟨ps, e1, rfl⟩ := Option.map_eq_some_iff.mp e
        rw [if_neg h1, h2]
        simp only [toPws_mono ih e1, Option.map_some]
      · rename_i xs ex
        obtain ⟨h1, h2⟩ := h n _ hn ex
        obtain ⟨ps, e1, rfl⟩ := Option.map_eq_some_iff.mp e
        rw [if_neg h1, h2]
        simp only [toPws_mono ih e1, Option.map_some]
      · cases e
theorem gQ_gP {A : List Nat} {S : Sto} : ∀ {k k' n : Nat} {p : PyData}, k ≤ k' → gQ A k S n = some p → gP k' S n = some p
  | 0, _, _, _, _, e => by simp only [gQ] at e; cases e
  | k + 1, 0, _, _, hk, _ => by omega
  | k + 1, k' + 1, n, p, hk, e => by
    have ih : ∀ n p, gQ A k S n = some p → gP k' S n = some p := fun n p => gQ_gP (by omega)
    unfold gQ at e
    unfold gP
    split at e
    · cases e
    · split at e
      · rename_i xs ex
        obtain ⟨ps, e1, rfl⟩ := Option.map_eq_some_iff.mp e
        try rw [ex]
        simp only [toPws_mono ih e1, Option.map_some]
      · rename_i xs ex
        obtain ⟨ps, e1, rfl⟩ := Option.map_eq_some_iff.mp e
        try rw [ex]
        simp only [toPws_mono ih e1, Option.map_some]
      · rename_i xs ex
        obtain ⟨ps, e1, rfl⟩ := Option.map_eq_some_iff.mp e
        try rw [ex]
        simp only [toPws_mono ih e1, Option.map_some]
      · cases e
section
variable {A B : List Nat} {k k' : Nat} {S S' : Sto} {d : D} {ds : List D} {p : PyData} {ps : List PyData}
theorem see_toP (e : see A k S d = some p) (h : k ≤ LEV) : toP S d = some p := toPw_mono (fun _ _ => gQ_gP h) e
theorem see_move (h : ∀ n x, n ∉ A → S[n]? = some x → n ∉ B ∧ S'[n]? = some x) (hk : k ≤ k') (e : see A k S d = some p) : see B k' S' d = some p := toPw_mono (fun _ _ => gQ_move h hk) e
theorem sees_move (h : ∀ n x, n ∉ A → S[n]? = some x → n ∉ B ∧ S'[n]? = some x) (hk : k ≤ k') (e : sees A k S ds = some ps) : sees B k' S' ds = some ps := toPws_mono (fun _ _ => gQ_move h hk) e
theorem see_stp (x : Stp A S S') (e : see A k S d = some p) : see A k S' d = some p := see_move (fun n c hn h => ⟨hn, x.2 n c hn h⟩) (Nat.le_refl _) e
theorem sees_stp (x : Stp A S S') (e : sees A k S ds = some ps) : sees A k S' ds = some ps := sees_move (fun n c hn h => ⟨hn, x.2 n c hn h⟩) (Nat.le_refl _) e
theorem see_le (h : k ≤ k') (e : see A k S d = some p) : see A k' S d = some p := see_move (fun n c hn h => ⟨hn, h⟩) h e
theorem sees_le (h : k ≤ k') (e : sees A k S ds = some ps) : sees A k' S ds = some ps := sees_move (fun n c hn h => ⟨hn, h⟩) h e
theorem see_sub (h : ∀ n, n ∈ B → n ∈ A) (e : see A k S d = some p) : see B k S d = some p := see_move (fun n c hn q => ⟨fun z => hn (h n z), q⟩) (Nat.le_refl _) e
/-- what is new may be left out, too -/
theorem see_out (h : ∀ n, n ∈ B → n ∈ A ∨ S.length ≤ n) (x : Stp A S S') (e : see A k S d = some p) : see B k S' d = some p := see_move (fun n c hn q => ⟨fun z => by
  rcases h n z with w | w
  · exact hn w
  · have := (List.getElem?_eq_some_iff.mp q).1; omega, x.2 n c hn q⟩) (Nat.le_refl _) e
theorem sees_out (h : ∀ n, n ∈ B → n ∈ A ∨ S.length ≤ n) (x : Stp A S S') (e : sees A k S ds = some ps) : sees B k S' ds = some ps := sees_move (fun n c hn q => ⟨fun z => by
  rcases h n z with w | w
  · exact hn w
  · have := (List.getElem?_eq_some_iff.mp q).1; omega, x.2 n c hn q⟩) (Nat.le_refl _) e
@[simp] theorem see_non : see A k S .non = some .none := by simp only [see, toPw]
@[simp] theorem see_bl (b : Bool) : see A k S (.bl b) = some (.bool b) := by simp only [see, toPw]
@[simp] theorem see_int (i : Int) : see A k S (.int i) = some (.int i) := by simp only [see, toPw]
@[simp] theorem see_str (x : Str) : see A k S (.str x) = some (.str x) := by simp only [see, toPw]
theorem see_tup (e : sees A k S ds = some ps) : see A k S (.tup ds) = some (.tuple ps) := by
  unfold sees at e
  unfold see
  simp only [toPw, e, Option.map_some]
theorem see_lst {n : Nat} (h : S[n]? = some (.lst ds)) (hn : n ∉ A) (e : sees A k S ds = some ps) : see A (k + 1) S (.ref n) = some (.list ps) := by
  unfold sees at e
  unfold see
  simp only [toPw, gQ, if_neg hn, h, e, Option.map_some]
theorem see_dct0 {n : Nat} (h : S[n]? = some (.dct [])) (hn : n ∉ A) : see A (k + 1) S (.ref n) = some (.dict []) := by
  unfold see
  simp only [toPw, gQ, if_neg hn, h, List.map_nil, toPws, Option.map_some, List.zip_nil_left]
@[simp] theorem sees_nil : sees A k S [] = some [] := by simp only [sees, toPws]
theorem sees_cons (e : see A k S d = some p) (es : sees A k S ds = some ps) : sees A k S (d :: ds) = some (p :: ps) := by
  unfold see at e
  unfold sees at es ⊢
  simp only [toPws, e, es, Option.bind_some, Option.map_some]
theorem sees_inv (e : sees A k S (d :: ds) = some ps) : ∃ p qs, ps = p :: qs ∧ see A k S d = some p ∧ sees A k S ds = some qs := by
  unfold sees at e
  simp only [toPws] at e
  obtain ⟨p, e1, e2⟩ := Option.bind_eq_some_iff.mp e
  obtain ⟨qs, e3, rfl⟩ := Option.map_eq_some_iff.mp e2
  exact ⟨p, qs, rfl, e1, e3⟩
theorem sees_len : ∀ {ds : List D} {ps : List PyData}, sees A k S ds = some ps → ps.length = ds.length
  | [], ps, e => by simp only [sees_nil, Option.some.injEq] at e; subst e; rfl
  | d :: ds, ps, e => by
    obtain ⟨p, qs, rfl, _, e2⟩ := sees_inv e
    rw [List.length_cons, List.length_cons, sees_len e2]
theorem sees_append : ∀ {ds es : List D} {ps qs : List PyData}, sees A k S ds = some ps → sees A k S es = some qs → sees A k S (ds ++ es) = some (ps ++ qs)
  | [], es, ps, qs, e, e' => by simp only [sees_nil, Option.some.injEq] at e; subst e; exact e'
  | d :: ds, es, ps, qs, e, e' => by
    obtain ⟨p, ps', rfl, e1, e2⟩ := sees_inv e
    exact sees_cons e1 (sees_append e2 e')
theorem sees_take : ∀ (n : Nat) {ds : List D} {ps : List PyData}, sees A k S ds = some ps → sees A k S (ds.take n) = some (ps.take n)
  | 0, _, _, _ => by simp only [List.take_zero, sees_nil]
  | n + 1, [], ps, e => by simp only [sees_nil, Option.some.injEq] at e; subst e; simp only [List.take_nil, sees_nil]
  | n + 1, d :: ds, ps, e => by
    obtain ⟨p, ps', rfl, e1, e2⟩ := sees_inv e
    exact sees_cons e1 (sees_take n e2)
theorem sees_drop : ∀ (n : Nat) {ds : List D} {ps : List PyData}, sees A k S ds = some ps → sees A k S (ds.drop n) = some (ps.drop n)
  | 0, _, _, e => e
  | n + 1, [], ps, e => by simp only [sees_nil, Option.some.injEq] at e; subst e; simp only [List.drop_nil, sees_nil]
  | n + 1, d :: ds, ps, e => by
    obtain ⟨p, ps', rfl, e1, e2⟩ := sees_inv e
    exact sees_drop n e2
theorem sees_get : ∀ {ds : List D} {ps : List PyData} {i : Nat} {d : D}, sees A k S ds = some ps → ds[i]? = some d → ∃ p, ps[i]? = some p ∧ see A k S d = some p
  | [], _, _, _, _, h => by simp at h
  | d :: ds, ps, 0, d', e, h => by
    obtain ⟨p, ps', rfl, e1, e2⟩ := sees_inv e
    simp at h; subst h
    exact ⟨p, rfl, e1⟩
  | d :: ds, ps, i + 1, d', e, h => by
    obtain ⟨p, ps', rfl, e1, e2⟩ := sees_inv e
    simpa using sees_get (i := i) e2 (by simpa using h)
theorem sees_strs : ∀ ys : List Str, sees A k S (ys.map D.str) = some (ys.map PyData.str)
  | [] => sees_nil
  | y :: ys => sees_cons (see_str y) (sees_strs ys)
theorem see_tup_inv (e : see A k S (.tup ds) = some p) : ∃ ps, p = .tuple ps ∧ sees A k S ds = some ps := by
  unfold see at e
  simp only [toPw] at e
  obtain ⟨ps, e1, rfl⟩ := Option.map_eq_some_iff.mp e
  exact ⟨ps, rfl, e1⟩
end

/-! ### how long the texts are -/
mutual
def fit : PyData → Bool
  | .none => true
  | .bool _ => true
  | .int i => decide (i.natAbs < 10)
  | .str x => x.cps.toList.all fun c => decide (c < 4294967296)
  | .list xs => fits xs
  | .tuple xs => fits xs
  | .dict kvs => fitK kvs
def fits : List PyData → Bool
  | [] => true
  | x :: xs => fit x && fits xs
def fitK : List (PyData × PyData) → Bool
  | [] => true
  | (k, v) :: r => fit k && fit v && fitK r
end
mutual
def wt : PyData → Nat
  | .none => 4
  | .bool _ => 5
  | .int _ => 2
  | .str x => 10 * x.length + 2
  | .list xs => 3 + wts xs
  | .tuple xs => 3 + wts xs
  | .dict kvs => 3 + wtK kvs
def wts : List PyData → Nat
  | [] => 0
  | x :: xs => (wt x + 2) + wts xs
def wtK : List (PyData × PyData) → Nat
  | [] => 0
  | (k, v) :: r => (wt k + wt v + 4) + wtK r
end
theorem textFrom_size : ∀ (ts : List Str) (k : Nat) (acc : Str), (textFrom k acc ts).length ≤ acc.length + piled ts
  | [], k, acc => by show acc.length ≤ _; omega
  | t :: r, k, acc => by
    show (textFrom (k + 1) (acc ++ (if k > 0 then ", " else "" : String) ++ t) r).length ≤ _
    have ih := textFrom_size r (k + 1) (acc ++ (if k > 0 then ", " else "" : String) ++ t)
    rw [strLen_append, strLen_append] at ih
    have e : (((if k > 0 then ", " else "" : String) : Str)).length ≤ 2 := by split <;> decide
    rw [piled_cons]; omega
theorem listText_size (ts : List Str) : (listText ts).length ≤ 3 + piled ts := by
  unfold listText
  rw [strLen_append]
  have := textFrom_size ts 0 "["
  have e1 : ((("[" : String) : Str)).length = 1 := rfl
  have e2 : ((("]" : String) : Str)).length = 1 := rfl
  omega
theorem tupleText_size (ts : List Str) : (tupleText ts).length ≤ 3 + piled ts := by
  unfold tupleText
  rw [strLen_append, strLen_append]
  have e1 : ((("(" : String) : Str)).length = 1 := rfl
  have e3 : (((if ts.length == 1 then ",)" else ")" : String) : Str)).length ≤ 2 := by split <;> decide
  by_cases h : ts = []
  · subst h
    have e2 : (Str.join ", " []).length = 0 := rfl
    omega
  · have := join_length_add ts h
    omega
theorem dictText_size (ts : List Str) : (dictText ts).length ≤ 3 + piled ts := by
  unfold dictText
  rw [strLen_append, strLen_append]
  have e1 : ((("{" : String) : Str)).length = 1 := rfl
  have e3 : ((("}" : String) : Str)).length = 1 := rfl
  by_cases h : ts = []
  · subst h
    have e2 : (Str.join ", " []).length = 0 := rfl
    omega
  · have := join_length_add ts h
    omega
theorem small_int {i : Int} (h : i.natAbs < 10) : i = -9 ∨ i = -8 ∨ i = -7 ∨ i = -6 ∨ i = -5 ∨ i = -4 ∨ i = -3 ∨ i = -2 ∨ i = -1 ∨ i = 0 ∨ i = 1 ∨ i = 2 ∨ i = 3 ∨ i = 4 ∨ i = 5 ∨ i = 6 ∨ i = 7 ∨ i = 8 ∨ i = 9 := by omega
theorem int_size {i : Int} (h : i.natAbs < 10) : (PyData.shown (.int i)).length ≤ 2 ∧ i.natAbs.log2 < 1920 := by
  rcases small_int h with h | h | h | h | h | h | h | h | h | h | h | h | h | h | h | h | h | h | h <;> subst h <;> exact ⟨by decide +kernel, by decide +kernel⟩
mutual
theorem shown_size : ∀ p : PyData, fit p = true → (PyData.shown p).length ≤ wt p ∧ PyData.showable p = true
  | .none, _ => ⟨by decide, rfl⟩
  | .bool b, _ => ⟨by cases b <;> decide, rfl⟩
  | .int i, h => by
    simp only [fit, decide_eq_true_eq] at h
    obtain ⟨a, b⟩ := int_size h
    exact ⟨by simpa only [wt] using a, by simp only [PyData.showable, decide_eq_true_eq]; exact b⟩
  | .str x, h => by
    simp only [fit, List.all_eq_true, decide_eq_true_eq] at h
    refine ⟨?_, by simp only [PyData.showable]⟩
    simp only [PyData.shown, wt]
    exact PySem.StrLaws.reprText_len x fun c hc => h c hc
  | .list xs, h => by
    simp only [fit] at h
    obtain ⟨a, b⟩ := shown_sizes xs h
    refine ⟨?_, by simp only [PyData.showable]; exact b⟩
    simp only [PyData.shown, wt]
    exact Nat.le_trans (listText_size _) (by omega)
  | .tuple xs, h => by
    simp only [fit] at h
    obtain ⟨a, b⟩ := shown_sizes xs h
    refine ⟨?_, by simp only [PyData.showable]; exact b⟩
    simp only [PyData.shown, wt]
    exact Nat.le_trans (tupleText_size _) (by omega)
  | .dict kvs, h => by
    simp only [fit] at h
    obtain ⟨a, b⟩ := shown_sizeK kvs h
    refine ⟨?_, by simp only [PyData.showable]; exact b⟩
    simp only [PyData.shown, wt]
    exact Nat.le_trans (dictText_size _) (by omega)
theorem shown_sizes : ∀ xs : List PyData, fits xs = true → piled (PyData.shownAll xs) ≤ wts xs ∧ PyData.showableAll xs = true
  | [], _ => ⟨Nat.le_refl _, rfl⟩
  | x :: xs, h => by
    simp only [fits, Bool.and_eq_true] at h
    obtain ⟨a, b⟩ := shown_size x h.1
    obtain ⟨a', b'⟩ := shown_sizes xs h.2
    refine ⟨?_, by simp only [PyData.showableAll, b, b', Bool.and_self]⟩
    simp only [PyData.shownAll, piled_cons, wts]
    omega
theorem shown_sizeK : ∀ xs : List (PyData × PyData), fitK xs = true → piled (PyData.shownKv xs) ≤ wtK xs ∧ PyData.showableKv xs = true
  | [], _ => ⟨Nat.le_refl _, rfl⟩
  | (k, v) :: xs, h => by
    simp only [fitK, Bool.and_eq_true] at h
    obtain ⟨a, b⟩ := shown_size k h.1.1
    obtain ⟨c, d⟩ := shown_size v h.1.2
    obtain ⟨a', b'⟩ := shown_sizeK xs h.2
    refine ⟨?_, by simp only [PyData.showableKv, b, d, b', Bool.and_self]⟩
    simp only [PyData.shownKv, piled_cons, wtK, strLen_append]
    have e : (((": " : String) : Str)).length = 2 := rfl
    omega
end
theorem okRepr_of {p : PyData} (h1 : fit p = true) (h2 : wt p ≤ 16777216) (h3 : p.depth ≤ 60) : okRepr p = true := by
  obtain ⟨a, b⟩ := shown_size p h1
  unfold okRepr
  rw [b, decide_eq_true h3, decide_eq_true (Nat.le_trans a (Nat.le_trans h2 (by decide)))]
  rfl
/-- repr(x) -/
theorem repr_ok {A : List Nat} {k : Nat} {S : Sto} {d : D} {p : PyData} (e : see A k S d = some p) (hk : k ≤ LEV) (h1 : fit p = true) (h2 : wt p ≤ 16777216) (h3 : p.depth ≤ 60) : bRepr [d] S = some (.str p.shown, S) := by
  unfold bRepr
  simp only [see_toP e hk, Option.bind_some, if_pos (okRepr_of h1 h2 h3)]
end DL

/-! the D-layer: types, comprehensions without a change, the texts' laws -/
namespace DL
open PySem L2

/-! ### comprehensions that change nothing -/
theorem seq_push {S : Sto} {n : Nat} {xs ys : List D} (e : seqAt S n = some xs) : seqAt (S ++ [.lst ys]) n = some xs := seq_stp (A := []) .push (by simp) e
theorem wp_lc {ms : IM} {t : Tg} {c : TM} {el : EM} {vs : List Nat} {ρ : Ev} {S : Sto} (xs : List D) (b : D → Bool) (v : D → D) (src : Src)
    (hs : WP (ms ρ S) fun s S1 => s = src ∧ Stp [] S S1) (hat : ∀ S', Stp [] S S' → ∀ i, src.at_ i S' = some xs[i]?) (hl : xs.length < 2 ^ 24)
    (hc : ∀ d ∈ xs, ∃ ρ1, t.put d (wipeE ρ vs) = some ρ1 ∧ ∀ S', Stp [] S S' → WP (c ρ1 S') fun k S1 => k = b d ∧ Stp [] S' S1 ∧ (k = true → WP (el ρ1 S1) fun y S2 => y = v d ∧ Stp [] S1 S2)) :
    WP (mLc ms t c el vs ρ S) fun r S' => ∃ a, r = .ref a ∧ S'[a]? = some (.lst ((xs.filter b).map v)) ∧ Stp [] S S' ∧ S.length ≤ a := by
  rw [r_Lc, wp_bind]
  refine hs.mono fun s S1 hh => ?_
  obtain ⟨rfl, st⟩ := hh
  have st1 : Stp [] S (S1 ++ [.lst []]) := st.trans .push
  refine wp_loopC xs (fun i acc S' => acc = ((xs.take i).filter b).map v ∧ Stp [] S S' ∧ S'[S1.length]? = some (.lst acc)) (fun i acc S' h => ?_) (fun i acc S' d h hd => ?_) hl (fun acc S' h => ?_) FUEL 0 [] _ ⟨rfl, st1, by simp⟩ (Nat.zero_le _) (by unfold FUEL; omega)
  · obtain ⟨rfl, h2, h3⟩ := h
    refine ⟨hat S' h2 i, ?_⟩
    rw [List.length_map]
    refine Nat.le_trans (List.length_filter_le _ _) ?_
    rw [List.length_take]; omega
  · obtain ⟨ea, h2, h3⟩ := h
    obtain ⟨ρ1, e1, h⟩ := hc d (List.mem_of_getElem? hd)
    refine ⟨ρ1, e1, (h S' h2).mono fun k S2 hh => ?_⟩
    obtain ⟨ek, st2, hv⟩ := hh
    have et : xs.take (i + 1) = xs.take i ++ [d] := by
      rw [List.take_add_one, hd]; rfl
    constructor
    · intro hk
      refine (hv hk).mono fun y S3 hh => ?_
      obtain ⟨rfl, st3⟩ := hh
      have e3 : S3[S1.length]? = some (.lst acc) := st3.at_ (by simp) (st2.at_ (by simp) h3)
      refine ⟨e3, ?_, (h2.trans (st2.trans st3)).new st.1, ?_⟩
      · rw [et, List.filter_append, List.map_append, ea, List.filter_cons, if_pos (by rw [← ek]; exact hk)]; rfl
      · rw [List.getElem?_set_self (List.getElem?_eq_some_iff.mp e3).1]
    · intro hk
      refine ⟨?_, h2.trans st2, st2.at_ (by simp) h3⟩
      rw [et, List.filter_append, List.map_append, ea, List.filter_cons, if_neg (by rw [← ek, hk]; simp)]
      simp
  · obtain ⟨ea, h2, h3⟩ := h
    rw [List.take_length] at ea
    subst ea
    exact ⟨S1.length, rfl, h3, h2, st.1⟩
theorem at_tup {xs : List D} {S : Sto} (i : Nat) : (Src.tup xs).at_ i S = some xs[i]? := rfl
def signs (z : Str) : List D := z.cps.toList.map fun c => .str ⟨#[c]⟩
theorem at_str {z : Str} {S : Sto} (i : Nat) : (Src.str z).at_ i S = some (signs z)[i]? := by
  unfold Src.at_ signs
  simp [List.getElem?_map]
theorem at_rng {lo : Int} {n : Nat} {S : Sto} (i : Nat) : (Src.rng lo n).at_ i S = some ((List.range n).map fun (j : Nat) => D.int (lo + (j : Int)))[i]? := by
  unfold Src.at_
  dsimp only
  rw [List.getElem?_map]
  by_cases h : i < n
  · rw [if_pos h, List.getElem?_range h]; rfl
  · rw [if_neg h, List.getElem?_eq_none (by simpa using h)]; rfl
theorem at_lst {n : Nat} {xs : List D} {S S' : Sto} (e : seqAt S n = some xs) (st : Stp [] S S') (i : Nat) : (Src.lst n).at_ i S' = some xs[i]? := by
  unfold Src.at_
  simp only [seq_stp st (by simp) e, Option.map_some]
theorem blsD_map : ∀ bs : List Bool, blsD (bs.map .bl) = some bs
  | [] => rfl
  | b :: bs => by simp only [List.map_cons, blsD, blsD_map bs, Option.map_some]
theorem strsD_map : ∀ bs : List Str, strsD (bs.map .str) = some bs
  | [] => rfl
  | b :: bs => by simp only [List.map_cons, strsD, strsD_map bs, Option.map_some]
theorem all_ok {S : Sto} {a : Nat} {bs : List Bool} (e : S[a]? = some (.lst (bs.map .bl))) : bAll [.ref a] S = some (.bl (bs.all id), S) := by
  unfold bAll seqB
  have : seqAt S a = some (bs.map .bl) := by unfold seqAt; rw [e]
  simp only [this, Option.bind_some, blsD_map, Option.map_some]

/-! ### types -/
def tyP : PyData → String
  | .none => "NoneType"
  | .bool _ => "bool"
  | .int _ => "int"
  | .str _ => "str"
  | .list _ => "list"
  | .tuple _ => "tuple"
  | .dict _ => "dict"
def isS : PyData → Bool
  | .str _ => true
  | _ => false
def isT : PyData → Bool
  | .tuple _ => true
  | _ => false
theorem kS (p : PyData) : kitB (tyP p) "str" = some (isS p) := by cases p <;> simp only [tyP, isS] <;> decide +kernel
theorem kT (p : PyData) : kitB (tyP p) "tuple" = some (isT p) := by cases p <;> simp only [tyP, isT] <;> decide +kernel
section
variable {A : List Nat} {k : Nat} {S : Sto} {d : D} {p : PyData}
theorem see_ty (e : see A k S d = some p) : tyD S d = some (tyP p) := by
  unfold see at e
  cases d with
  | non => simp only [toPw, Option.some.injEq] at e; subst e; rfl
  | bl b => simp only [toPw, Option.some.injEq] at e; subst e; rfl
  | int i => simp only [toPw, Option.some.injEq] at e; subst e; rfl
  | str x => simp only [toPw, Option.some.injEq] at e; subst e; rfl
  | tup xs => simp only [toPw] at e; obtain ⟨ps, _, rfl⟩ := Option.map_eq_some_iff.mp e; rfl
  | raw u => simp only [toPw] at e; cases e
  | ref n =>
    simp only [toPw] at e
    cases k with
    | zero => simp only [gQ] at e; cases e
    | succ k =>
      unfold gQ at e
      split at e
      · cases e
      · split at e
        · rename_i xs ex; obtain ⟨ps, _, rfl⟩ := Option.map_eq_some_iff.mp e; simp only [tyD, ex, tyP]
        · rename_i xs ex; obtain ⟨ps, _, rfl⟩ := Option.map_eq_some_iff.mp e; simp only [tyD, ex, tyP]
        · rename_i xs ex; obtain ⟨ps, _, rfl⟩ := Option.map_eq_some_iff.mp e; simp only [tyD, ex, tyP]
        · cases e
theorem isi_str (e : see A k S d = some p) : bIsi [d, .raw (.ty "str")] S = some (.bl (isS p), S) := by
  unfold bIsi
  simp only [see_ty e, Option.bind_some, kS, Option.map_some]
theorem isi_tup (e : see A k S d = some p) : bIsi [d, .raw (.ty "tuple")] S = some (.bl (isT p), S) := by
  unfold bIsi
  simp only [see_ty e, Option.bind_some, kT, Option.map_some]
theorem see_S (e : see A k S d = some p) (h : isS p = true) : ∃ z, p = .str z ∧ d = .str z := by
  cases p <;> simp only [isS] at h <;> first | cases h | skip
  rename_i z
  refine ⟨z, rfl, ?_⟩
  unfold see at e
  cases d with
  | str x => simp only [toPw, Option.some.injEq] at e; cases e; rfl
  | tup xs => simp only [toPw] at e; obtain ⟨ps, _, h⟩ := Option.map_eq_some_iff.mp e; cases h
  | ref n =>
    simp only [toPw] at e
    cases k with
    | zero => simp only [gQ] at e; cases e
    | succ k =>
      unfold gQ at e
      split at e
      · cases e
      · split at e
        · obtain ⟨ps, _, h⟩ := Option.map_eq_some_iff.mp e; cases h
        · obtain ⟨ps, _, h⟩ := Option.map_eq_some_iff.mp e; cases h
        · obtain ⟨ps, _, h⟩ := Option.map_eq_some_iff.mp e; cases h
        · cases e
  | _ => simp only [toPw] at e; cases e
theorem see_T (e : see A k S d = some p) (h : isT p = true) : ∃ ps xs, p = .tuple ps ∧ d = .tup xs ∧ sees A k S xs = some ps := by
  cases p <;> simp only [isT] at h <;> first | cases h | skip
  rename_i qs
  unfold see at e
  cases d with
  | tup xs => simp only [toPw] at e; obtain ⟨ps, e1, h⟩ := Option.map_eq_some_iff.mp e; cases h; exact ⟨_, xs, rfl, rfl, e1⟩
  | ref n =>
    simp only [toPw] at e
    cases k with
    | zero => simp only [gQ] at e; cases e
    | succ k =>
      unfold gQ at e
      split at e
      · cases e
      · split at e
        · obtain ⟨ps, _, h⟩ := Option.map_eq_some_iff.mp e; cases h
        · obtain ⟨ps, _, h⟩ := Option.map_eq_some_iff.mp e; cases h
        · obtain ⟨ps, _, h⟩ := Option.map_eq_some_iff.mp e; cases h
        · cases e
  | _ => simp only [toPw] at e; cases e
end

/-! ### what is small -/
structure Lim (w d : Nat) (p : PyData) : Prop where
  f : fit p = true
  w : wt p ≤ w
  d : p.depth ≤ d
theorem Lim.mono {w w' d d' : Nat} {p : PyData} (l : Lim w d p) (hw : w ≤ w') (hd : d ≤ d') : Lim w' d' p := ⟨l.f, Nat.le_trans l.w hw, Nat.le_trans l.d hd⟩
theorem fits_all : ∀ {ps : List PyData}, fits ps = true ↔ ∀ p ∈ ps, fit p = true
  | [] => by simp [fits]
  | p :: ps => by simp [fits, fits_all (ps := ps)]
theorem depth_all {d : Nat} : ∀ {ps : List PyData}, PyData.depthAll ps ≤ d ↔ ∀ p ∈ ps, p.depth ≤ d
  | [] => by simp [PyData.depthAll]
  | p :: ps => by
    simp only [PyData.depthAll, List.mem_cons, forall_eq_or_imp]
    rw [← depth_all (ps := ps)]
    omega
theorem wts_eq : ∀ ps : List PyData, wts ps = (ps.map fun p => wt p + 2).sum
  | [] => by simp [wts]
  | p :: ps => by simp only [wts, List.map_cons, List.sum_cons, wts_eq ps]
theorem wts_app (ps qs : List PyData) : wts (ps ++ qs) = wts ps + wts qs := by simp [wts_eq]
theorem wts_mem {p : PyData} : ∀ {ps : List PyData}, p ∈ ps → wt p ≤ wts ps
  | q :: ps, h => by
    simp only [wts]
    rcases List.mem_cons.mp h with rfl | h
    · omega
    · have := wts_mem h; omega
theorem wts_take (n : Nat) (ps : List PyData) : wts (ps.take n) ≤ wts ps := by
  have := wts_app (ps.take n) (ps.drop n)
  rw [List.take_append_drop] at this
  omega
theorem wts_drop (n : Nat) (ps : List PyData) : wts (ps.drop n) ≤ wts ps := by
  have := wts_app (ps.take n) (ps.drop n)
  rw [List.take_append_drop] at this
  omega
theorem lim_tup {w d : Nat} {ps : List PyData} : Lim w d (.tuple ps) ↔ (∀ p ∈ ps, fit p = true) ∧ 3 + wts ps ≤ w ∧ PyData.depthAll ps + 1 ≤ d := by
  constructor
  · intro l
    exact ⟨fits_all.mp (by simpa only [fit] using l.f), by simpa only [wt] using l.w, by simpa only [PyData.depth] using l.d⟩
  · rintro ⟨a, b, c⟩
    exact ⟨by simpa only [fit] using fits_all.mpr a, by simpa only [wt] using b, by simpa only [PyData.depth] using c⟩
theorem Lim.mem {w d : Nat} {ps : List PyData} (l : Lim w d (.tuple ps)) {p : PyData} (h : p ∈ ps) : Lim w d p := by
  obtain ⟨a, b, c⟩ := lim_tup.mp l
  have h1 := wts_mem h
  have h2 := depth_all.mp (Nat.le_refl (PyData.depthAll ps)) p h
  exact ⟨a p h, by omega, by omega⟩
theorem Lim.len {w d : Nat} {z : Str} (l : Lim w d (.str z)) : 10 * z.length + 2 ≤ w := by simpa only [wt] using l.w
theorem wts_len : ∀ ps : List PyData, ps.length ≤ wts ps
  | [] => Nat.zero_le _
  | p :: ps => by simp only [wts, List.length_cons]; have := wts_len ps; omega

/-! ### repr(x) == "'T'" -/
theorem foldl_app (g : Nat → List Nat) : ∀ (l : List Nat) (acc : Array Nat), (l.foldl (fun out c => out ++ (g c).toArray) acc).toList = acc.toList ++ l.flatMap g
  | [], acc => by simp
  | c :: r, acc => by
    rw [List.foldl_cons, foldl_app g r]
    simp
theorem reprText_list (x : Str) : (reprText x).cps.toList = reprQuote x :: (x.cps.toList.flatMap (Builtin.Str.reprChar (reprQuote x)) ++ [reprQuote x]) := by
  unfold reprText
  show ((x.cps.foldl (fun out c => out ++ (Builtin.Str.reprChar (reprQuote x) c).toArray) #[reprQuote x]).push (reprQuote x)).toList = _
  rw [Array.toList_push, ← Array.foldl_toList, foldl_app]
  simp
theorem reprChar_pos (q c : Nat) : Builtin.Str.reprChar q c ≠ [] := by
  unfold Builtin.Str.reprChar
  dsimp only
  repeat' split
  all_goals simp
theorem reprChar_T {q c : Nat} (h : Builtin.Str.reprChar q c = [84]) : c = 84 := by
  unfold Builtin.Str.reprChar at h
  dsimp only at h
  repeat' split at h
  all_goals first | (simp only [List.cons.injEq, and_true] at h; exact h) | (simp at h)
theorem flat_T {q : Nat} {l : List Nat} (h : l.flatMap (Builtin.Str.reprChar q) = [84]) : l = [84] := by
  cases l with
  | nil => simp at h
  | cons c r =>
    rw [List.flatMap_cons] at h
    have hp := reprChar_pos q c
    cases e : Builtin.Str.reprChar q c with
    | nil => exact (hp e).elim
    | cons a b =>
      rw [e] at h
      simp only [List.cons_append, List.cons.injEq, List.append_eq_nil_iff] at h
      obtain ⟨rfl, rfl, h2⟩ := h
      have hc := reprChar_T e
      cases r with
      | nil => rw [hc]
      | cons c2 r2 =>
        rw [List.flatMap_cons, List.append_eq_nil_iff] at h2
        exact (reprChar_pos q c2 h2.1).elim
theorem str_list {a b : Str} (h : a.cps.toList = b.cps.toList) : a = b := by
  obtain ⟨⟨a⟩⟩ := a
  obtain ⟨⟨b⟩⟩ := b
  have : a = b := h
  rw [this]
theorem quote_list : (Str.ofString "'T'").cps.toList = [39, 84, 39] := by decide +kernel
theorem reprText_T {x : Str} (h : reprText x = Str.ofString "'T'") : x = Str.ofString "T" := by
  have := reprText_list x
  rw [h, quote_list] at this
  simp only [List.cons.injEq] at this
  obtain ⟨hq, h2⟩ := this
  have e : [84, 39] = x.cps.toList.flatMap (Builtin.Str.reprChar (reprQuote x)) ++ [reprQuote x] := h2
  have e2 : ([84] : List Nat) ++ [39] = x.cps.toList.flatMap (Builtin.Str.reprChar (reprQuote x)) ++ [reprQuote x] := e
  have := List.append_inj' e2 rfl
  exact str_list (by rw [flat_T this.1.symm]; decide +kernel)
theorem first_ne {x y : Str} {a b : Nat} (hx : x.cps.toList.head? = some a) (hy : y.cps.toList.head? = some b) (h : a ≠ b) : x ≠ y := fun z => by
  subst z
  rw [hx] at hy
  exact h (Option.some.inj hy)
theorem cps_append (a b : Str) : (a ++ b).cps.toList = a.cps.toList ++ b.cps.toList := by
  show (a.cps ++ b.cps).toList = _
  simp
theorem textFrom_head (t : List Str) : ∀ (k : Nat) (acc : Str) (c : Nat), acc.cps.toList.head? = some c → (textFrom k acc t).cps.toList.head? = some c := by
  induction t with
  | nil => exact fun _ _ _ h => h
  | cons x t ih =>
    intro k acc c h
    refine ih _ _ c ?_
    rw [cps_append, cps_append]
    simp [List.head?_append, h]
theorem shown_T {p : PyData} (hf : fit p = true) : (PyData.shown p = Str.ofString "'T'") ↔ p = .str (Str.ofString "T") := by
  constructor
  · intro h
    have hq : (Str.ofString "'T'").cps.toList.head? = some 39 := by decide +kernel
    cases p with
    | none => exact absurd h (by decide +kernel)
    | bool b => cases b <;> exact absurd h (by decide +kernel)
    | int i =>
      simp only [fit, decide_eq_true_eq] at hf
      rcases small_int hf with e | e | e | e | e | e | e | e | e | e | e | e | e | e | e | e | e | e | e <;> subst e <;> exact absurd h (by decide +kernel)
    | str x =>
      simp only [PyData.shown] at h
      rw [reprText_T h]
    | list xs =>
      refine absurd h (first_ne (a := 91) ?_ hq (by decide))
      simp only [PyData.shown]
      unfold listText
      rw [cps_append, List.head?_append, textFrom_head _ _ _ 91 (by decide +kernel)]
      rfl
    | tuple xs =>
      refine absurd h (first_ne (a := 40) ?_ hq (by decide))
      simp only [PyData.shown]
      unfold tupleText
      rw [cps_append, cps_append, List.append_assoc, List.head?_append]
      have : (Str.ofString "(").cps.toList.head? = some 40 := by decide +kernel
      rw [this]; rfl
    | dict xs =>
      refine absurd h (first_ne (a := 123) ?_ hq (by decide))
      simp only [PyData.shown]
      unfold dictText
      rw [cps_append, cps_append, List.append_assoc, List.head?_append]
      have : (Str.ofString "{").cps.toList.head? = some 123 := by decide +kernel
      rw [this]; rfl
  · intro h
    subst h
    decide +kernel
end DL

set_option maxHeartbeats 1000000
/-! the D-layer: zip of two tuples, strict -/
namespace DL
namespace Zs
open PySem PySem.Spec PyProof.Rows L2
open PySem.Sem (wp)
/-- a strict zip object -/
abbrev ZipS (g : Heap) (q tI tO : Addr) (own : Value) : Prop :=
  g.get? q = some { cls := .type "zip", dict := none, data := .fields #[own, .bool false, .bool true, .ref tI, .ref tO], slots := #[] }
section
variable {pr : Program} {wo : World} {Ar : Around} {Er : Value → Shared → Prop} {sh : Shared}
theorem orEnd_go {it tu : Addr} {n : Nat} {its} {v : Value} {R : Option Value → Shared → Prop} (a : sh.heap.IsTupleIter it tu n) (b : sh.heap.IsTuple tu its) (e : its[n]? = some v)
    (r : ∀ g, g.IsTupleIter it tu (n + 1) → Heap.SameBut it sh.heap g → R (some v) { sh with heap := g }) : wpAny (model pr wo) Ar (Builtin.SmallTypes.nextOrEnd (.ref it)) R Er sh := by
  unfold Builtin.SmallTypes.nextOrEnd
  exact wpAny_bind (wpAny_attempt (RZ.nextOf_tuple_item a b e fun g h1 h2 => wpAny_pure (r g h1 h2)))
theorem orEnd_stop {it tu : Addr} {n : Nat} {its} {R : Option Value → Shared → Prop} (cd : Ar.handled = none) (a : sh.heap.IsTupleIter it tu n) (b : sh.heap.IsTuple tu its) (e : its[n]? = none)
    (r : ∀ g, Heap.ExtBut it sh.heap g → R none { sh with heap := g }) : wpAny (model pr wo) Ar (Builtin.SmallTypes.nextOrEnd (.ref it)) R Er sh := by
  unfold Builtin.SmallTypes.nextOrEnd
  refine wpAny_bind (wpAny_attempt (RZ.nextOf_tuple_end cd a b e fun g ex h1 h2 => ?_))
  obtain ⟨oe, g1, g2⟩ := h2
  refine wpAny_bind (wpAny_isInstance (T := "StopIteration") (b := true) ⟨oe, g1, g2⟩ isSubtype_stop ?_)
  exact wpAny_pure (r g h1)
theorem next_go {q tI tO j1 j2 u1 u2 : Addr} {m1 m2 : Nat} {us vs : Array Value} {a b a0 b0 : Value} {R : Value → Shared → Prop} (D : ZipApart q tI tO j1 j2 u1 u2)
    (Z : ZipS sh.heap q tI tO .none) (pI : IsPair sh.heap tI (.ref j1) (.ref j2)) (pO : IsPair sh.heap tO a0 b0)
    (c1 : sh.heap.IsTupleIter j1 u1 m1) (c2 : sh.heap.IsTupleIter j2 u2 m2) (d1 : sh.heap.IsTuple u1 us) (d2 : sh.heap.IsTuple u2 vs) (ea : us[m1]? = some a) (eb : vs[m2]? = some b)
    (r : ∀ g, ZipS g q tI tO (rawInt sh.heap.objs.size) → IsPair g tO a b → g.IsTupleIter j1 u1 (m1 + 1) → g.IsTupleIter j2 u2 (m2 + 1) → IsPair g sh.heap.objs.size a b → g.objs.size = sh.heap.objs.size + 1 →
      (∀ k o, k ≠ q → k ≠ tO → k ≠ j1 → k ≠ j2 → sh.heap.get? k = some o → g.get? k = some o) → R (.ref sh.heap.objs.size) { sh with heap := g }) :
    wpAny (model pr wo) Ar (Builtin.«zip.__next__» ⟨[.ref q], []⟩) (fun fi s' => ∃ v, fi = .done (.ret v) ∧ R v s') Er sh := by
  show wpAny _ _ (field (.ref q) 2 >>= _) _ _ sh
  refine wpAny_bind (wpAny_field Z rfl (x := Value.bool true) rfl ?_)
  show wpAny _ _ (field (.ref q) 3 >>= _) _ _ sh
  refine wpAny_bind (wpAny_field Z rfl (x := Value.ref tI) rfl (wpAny_bind (wpAny_seqItems pI rfl ?_)))
  show wpAny _ _ (Builtin.SmallTypes.ownedTupleIsFree (.ref q) >>= _) _ _ sh
  refine wpAny_bind ?_
  unfold Builtin.SmallTypes.ownedTupleIsFree
  refine wpAny_bind (wpAny_field Z rfl (x := Value.none) rfl (wpAny_pure ?_))
  simp only [if_true]
  refine wpAny_bind (wpAny_rule (wpAny_bind (wpAny_field Z rfl (x := Value.ref tO) rfl ?_)))
  refine wpAny_bind (wpAny_setField_rec Z (by simp) fun g1 Z1 k1 => ?_)
  replace Z1 : ZipS g1 q tI tO .ellipsis := Z1
  refine wpAny_bind ?_
  simp only [List.zipIdx_cons, List.zipIdx_nil, List.forIn_cons, List.forIn_nil]
  -- the first one
  refine wpAny_bind (wpAny_bind (wpAny_onRaise ?_))
  show wpAny _ _ (Builtin.SmallTypes.nextOrEnd (.ref j1)) _ _ { sh with heap := g1 }
  refine orEnd_go (c1.extBut k1.extBut D.i1z) (d1.extBut k1.extBut D.l1z) ea fun g2 n1 k2 => ?_
  have pO2 : IsPair g2 tO a0 b0 := k2.extBut _ _ D.TOi1 (k1.extBut _ _ D.TOz pO)
  refine wpAny_bind (wpAny_seqItems pO2 rfl (wpAny_bind (wpAny_updateSeq_pair pO2 fun g3 pO3 k3 => ?_)))
  replace pO3 : IsPair g3 tO a b0 := pO3
  refine wpAny_bind (wpAny_letGo (wpAny_pure (wpAny_bind (wpAny_bind (wpAny_onRaise ?_)))))
  show wpAny _ _ (Builtin.SmallTypes.nextOrEnd (.ref j2)) _ _ { sh with heap := g3 }
  refine orEnd_go (((c2.extBut k1.extBut D.i2z).extBut k2.extBut D.i12.symm).extBut k3.extBut D.TOi2.symm) (((d2.extBut k1.extBut D.l2z).extBut k2.extBut D.l2i1).extBut k3.extBut D.l2TO) eb fun g4 n2 k4 => ?_
  have pO4 : IsPair g4 tO a b0 := k4.extBut _ _ D.TOi2 pO3
  refine wpAny_bind (wpAny_seqItems pO4 rfl (wpAny_bind (wpAny_updateSeq_pair pO4 fun g5 pO5 k5 => ?_)))
  replace pO5 : IsPair g5 tO a b := pO5
  refine wpAny_bind (wpAny_letGo (wpAny_pure (wpAny_pure ?_)))
  refine wpAny_bind (wpAny_seqItems pO5 rfl (wpAny_bind (wpAny_newTuple ?_)))
  have sz : g5.objs.size = sh.heap.objs.size := by rw [k5.1, k4.1, k3.1, k2.1, k1.1]
  have Z5 : ZipS g5 q tI tO .ellipsis := k5.extBut _ _ D.TOz.symm (k4.extBut _ _ D.i2z.symm (k3.extBut _ _ D.TOz.symm (k2.extBut _ _ D.i1z.symm Z1)))
  have all5 : ∀ k o, k ≠ q → k ≠ tO → k ≠ j1 → k ≠ j2 → sh.heap.get? k = some o → g5.get? k = some o := fun k o a1 a2 a3 a4 e =>
    k5.extBut _ _ a2 (k4.extBut _ _ a4 (k3.extBut _ _ a2 (k2.extBut _ _ a3 (k1.extBut _ _ a1 e))))
  have n15 : g5.IsTupleIter j1 u1 (m1 + 1) := ((n1.extBut k3.extBut D.TOi1.symm).extBut k4.extBut D.i12).extBut k5.extBut D.TOi1.symm
  have n25 : g5.IsTupleIter j2 u2 (m2 + 1) := n2.extBut k5.extBut D.TOi2.symm
  have ltq : q < g5.objs.size := Heap.lt_size Z5
  show wpAny _ _ (Builtin.SmallTypes.ownedTupleHandOut (.ref q) (.ref g5.objs.size) >>= _) _ _ _
  refine wpAny_bind ?_
  unfold Builtin.SmallTypes.ownedTupleHandOut
  have Z6 : ZipS (g5.push { cls := .type "tuple", data := .seq #[a, b] }) q tI tO .ellipsis := Heap.get?_push_of_some _ Z5
  refine wpAny_bind (wpAny_setField_rec Z6 (by simp) fun g7 Z7 k7 => ?_)
  replace Z7 : ZipS g7 q tI tO (rawInt g5.objs.size) := Z7
  refine wpAny_setField_rec Z7 (by simp) fun g8 Z8 k8 => ?_
  replace Z8 : ZipS g8 q tI tO (rawInt g5.objs.size) := Z8
  have up : ∀ k o, k ≠ q → g5.get? k = some o → g8.get? k = some o := fun k o a1 e => k8.extBut _ _ a1 (k7.extBut _ _ a1 (Heap.get?_push_of_some _ e))
  have T8 : IsPair g8 g5.objs.size a b := k8.extBut _ _ (Nat.ne_of_gt ltq) (k7.extBut _ _ (Nat.ne_of_gt ltq) (Heap.get?_push_size _ rfl))
  have sz8 : g8.objs.size = g5.objs.size + 1 := by rw [k8.1, k7.1, Heap.size_push]
  rw [sz] at Z8 T8 sz8
  refine wpAny_pure ⟨_, rfl, ?_⟩
  show R (.ref g5.objs.size) _
  rw [sz]
  exact r g8 Z8 (up _ _ D.TOz pO5) (n15.at fun o e => up _ o D.i1z e) (n25.at fun o e => up _ o D.i2z e) T8 sz8 fun k o a1 a2 a3 a4 e => up k o a1 (all5 k o a1 a2 a3 a4 e)
theorem next_stop {q tI tO j1 j2 u1 u2 : Addr} {m1 m2 : Nat} {us vs : Array Value} {a0 b0 : Value} {R : Fin → Shared → Prop} (cd : Ar.handled = none) (D : ZipApart q tI tO j1 j2 u1 u2)
    (Z : ZipS sh.heap q tI tO .none) (pI : IsPair sh.heap tI (.ref j1) (.ref j2)) (pO : IsPair sh.heap tO a0 b0)
    (c1 : sh.heap.IsTupleIter j1 u1 m1) (c2 : sh.heap.IsTupleIter j2 u2 m2) (d1 : sh.heap.IsTuple u1 us) (d2 : sh.heap.IsTuple u2 vs) (ea : us[m1]? = none) (eb : vs[m2]? = none)
    (r : ∀ g e, (∀ k o, k ≠ q → k ≠ tO → k ≠ j1 → k ≠ j2 → sh.heap.get? k = some o → g.get? k = some o) → (∃ o, g.get? e = some o ∧ o.cls = .type "StopIteration") → Er (.ref e) { sh with heap := g }) :
    wpAny (model pr wo) Ar (Builtin.«zip.__next__» ⟨[.ref q], []⟩) R Er sh := by
  show wpAny _ _ (field (.ref q) 2 >>= _) _ _ sh
  refine wpAny_bind (wpAny_field Z rfl (x := Value.bool true) rfl ?_)
  show wpAny _ _ (field (.ref q) 3 >>= _) _ _ sh
  refine wpAny_bind (wpAny_field Z rfl (x := Value.ref tI) rfl (wpAny_bind (wpAny_seqItems pI rfl ?_)))
  show wpAny _ _ (Builtin.SmallTypes.ownedTupleIsFree (.ref q) >>= _) _ _ sh
  refine wpAny_bind ?_
  unfold Builtin.SmallTypes.ownedTupleIsFree
  refine wpAny_bind (wpAny_field Z rfl (x := Value.none) rfl (wpAny_pure ?_))
  simp only [if_true]
  refine wpAny_bind (wpAny_rule (wpAny_bind (wpAny_field Z rfl (x := Value.ref tO) rfl ?_)))
  refine wpAny_bind (wpAny_setField_rec Z (by simp) fun g1 Z1 k1 => ?_)
  replace Z1 : ZipS g1 q tI tO .ellipsis := Z1
  refine wpAny_bind ?_
  simp only [List.zipIdx_cons, List.zipIdx_nil, List.forIn_cons, List.forIn_nil]
  refine wpAny_bind (wpAny_bind (wpAny_onRaise ?_))
  show wpAny _ _ (Builtin.SmallTypes.nextOrEnd (.ref j1)) _ _ { sh with heap := g1 }
  refine orEnd_stop cd (c1.extBut k1.extBut D.i1z) (d1.extBut k1.extBut D.l1z) ea fun g2 k2 => ?_
  have Z2 : ZipS g2 q tI tO .ellipsis := k2 _ _ D.i1z.symm Z1
  refine wpAny_bind (wpAny_setField_rec Z2 (by simp) fun g3 Z3 k3 => ?_)
  refine wpAny_bind ?_
  refine wpAny_bind ?_
  simp only [List.drop_succ_cons, List.drop_zero, List.zipIdx_cons, List.zipIdx_nil, List.forIn_cons, List.forIn_nil]
  refine wpAny_bind (wpAny_bind (orEnd_stop cd (((c2.extBut k1.extBut D.i2z).extBut k2 D.i12.symm).extBut k3.extBut D.i2z) (((d2.extBut k1.extBut D.l2z).extBut k2 D.l2i1).extBut k3.extBut D.l2z) eb fun g4 k4 => ?_))
  refine wpAny_pure (wpAny_pure (wpAny_bind (wpAny_rule ?_)))
  unfold Builtin.SmallTypes.stopIteration
  refine wpAny_bind ?_
  simp only [newExc, newTuple]
  refine' wpAny_bind (wpAny_newObj_type ?A1 (by size_fits))
  case A1 =>
    refine' wpAny_bind (m := firstArgMember _ _) (wpAny_of_eq (a := Value.none) ?B1 ?B2)
    case B1 => first | rfl | (simp only [firstArgMember]; rfl)
    case B2 =>
      refine' wpAny_newObj_type ?C1 (by size_fits)
      case C1 =>
        simp only [raiseNew]
        refine' wpAny_bind (wpAny_handled ?D1)
        case D1 =>
          rw [cd]
          refine' wpAny_bind (wpAny_pure (wpAny_throw ?F1))
          case F1 =>
            exact r _ _ (fun k o a1 a2 a3 a4 e => Heap.get?_push_of_some _ (Heap.get?_push_of_some _ (k4 _ _ a4 (k3.extBut _ _ a1 (k2 _ _ a3 (k1.extBut _ _ a1 e)))))) ⟨_, Heap.get?_push_size _ rfl, rfl⟩
theorem py_go {q tI tO j1 j2 u1 u2 : Addr} {m1 m2 : Nat} {us vs : Array Value} {a b a0 b0 : Value} {R : Option Value → Shared → Prop} (D : ZipApart q tI tO j1 j2 u1 u2)
    (Z : ZipS sh.heap q tI tO .none) (pI : IsPair sh.heap tI (.ref j1) (.ref j2)) (pO : IsPair sh.heap tO a0 b0)
    (c1 : sh.heap.IsTupleIter j1 u1 m1) (c2 : sh.heap.IsTupleIter j2 u2 m2) (d1 : sh.heap.IsTuple u1 us) (d2 : sh.heap.IsTuple u2 vs) (ea : us[m1]? = some a) (eb : vs[m2]? = some b)
    (r : ∀ g, ZipS g q tI tO (rawInt sh.heap.objs.size) → IsPair g tO a b → g.IsTupleIter j1 u1 (m1 + 1) → g.IsTupleIter j2 u2 (m2 + 1) → IsPair g sh.heap.objs.size a b → g.objs.size = sh.heap.objs.size + 1 →
      (∀ k o, k ≠ q → k ≠ tO → k ≠ j1 → k ≠ j2 → sh.heap.get? k = some o → g.get? k = some o) → R (some (.ref sh.heap.objs.size)) { sh with heap := g }) :
    wpAny (model pr wo) Ar (pyNext (.ref q)) R Er sh := by
  have ty : sh.TypeIs (.ref q) "zip" := ⟨_, Z, rfl⟩
  unfold pyNext
  refine wpAny_bind (wpAny_attempt (wpAny_callSpecial?_slot (name := Str.ofString "__next__") ty F.slot_zip_next (wpAny_call_entry F.slot_zip_next ty F.entry_zip_next ?_ (F.args_zip_next_1 _))))
  exact next_go D Z pI pO c1 c2 d1 d2 ea eb fun g b1 b2 b3 b4 b5 b6 b7 => wpAny_pure (r g b1 b2 b3 b4 b5 b6 b7)
theorem py_stop {q tI tO j1 j2 u1 u2 : Addr} {m1 m2 : Nat} {us vs : Array Value} {a0 b0 : Value} {R : Option Value → Shared → Prop} (cd : Ar.handled = none) (D : ZipApart q tI tO j1 j2 u1 u2)
    (Z : ZipS sh.heap q tI tO .none) (pI : IsPair sh.heap tI (.ref j1) (.ref j2)) (pO : IsPair sh.heap tO a0 b0)
    (c1 : sh.heap.IsTupleIter j1 u1 m1) (c2 : sh.heap.IsTupleIter j2 u2 m2) (d1 : sh.heap.IsTuple u1 us) (d2 : sh.heap.IsTuple u2 vs) (ea : us[m1]? = none) (eb : vs[m2]? = none)
    (r : ∀ g, (∀ k o, k ≠ q → k ≠ tO → k ≠ j1 → k ≠ j2 → sh.heap.get? k = some o → g.get? k = some o) → R none { sh with heap := g }) :
    wpAny (model pr wo) Ar (pyNext (.ref q)) R Er sh := by
  have ty : sh.TypeIs (.ref q) "zip" := ⟨_, Z, rfl⟩
  unfold pyNext
  refine wpAny_bind (wpAny_attempt (wpAny_callSpecial?_slot (name := Str.ofString "__next__") ty F.slot_zip_next (wpAny_call_entry F.slot_zip_next ty F.entry_zip_next ?_ (F.args_zip_next_1 _))))
  refine next_stop (show Ar.in1.handled = none from cd) D Z pI pO c1 c2 d1 d2 ea eb fun g e b1 b2 => ?_
  obtain ⟨oe, g1, g2⟩ := b2
  refine wpAny_bind (wpAny_isInstance (T := "StopIteration") (b := true) ⟨oe, g1, g2⟩ isSubtype_stop ?_)
  exact wpAny_pure (r _ b1)
theorem let_go {es : List Expr} {n1} {ps : Pos} {q tI tO tt : Addr} {R : Unit → Shared → Prop} (Z : ZipS sh.heap q tI tO (rawInt tt)) (r : ∀ g, ZipS g q tI tO .none → Heap.SameBut q sh.heap g → R () { sh with heap := g }) :
    wpAny (model pr wo) Ar (letOwnedTupleGo (.Tuple es n1 ps) (.ref q) (.ref tt)) R Er sh := by
  unfold letOwnedTupleGo
  refine wpAny_bind (wpAny_load Z ?_)
  have yes : (["enumerate", "zip", "dict_itemiterator", "dict_reverseitemiterator", "odict_iterator", "itertools.zip_longest", "itertools.pairwise"].contains "zip" && (#[rawInt tt, .bool false, .bool true, .ref tI, .ref tO] : Array Value)[0]? == some (rawInt tt)) = true := by simp
  show wpAny _ _ (if (_ && _) = true then _ else _) R Er sh
  rw [if_pos yes]
  refine wpAny_bind (wpAny_rule ?_)
  show wpAny _ _ (setField (.ref q) 0 .none) R Er sh
  exact wpAny_setField_rec Z (by simp) fun g a b => r g a b
theorem it_self {q tI tO : Addr} {own : Value} {R : Value → Shared → Prop} (Z : ZipS sh.heap q tI tO own) (r : R (.ref q) sh) : wpAny (model pr wo) Ar (pyIter (.ref q)) R Er sh := by
  have ty : sh.TypeIs (.ref q) "zip" := ⟨_, Z, rfl⟩
  refine wpAny_pyIter_slot ty F.slot_zip_iter (wpAny_call_entry F.slot_zip_iter ty F.entry_zip_iter ?_ (F.args_zip_iter_1 _))
  show wpAny _ _ (ret (Value.ref q)) _ _ sh
  exact wpAny_pure ⟨_, rfl, "zip", _, ty, F.slot_zip_next.lookup, r⟩
end
section
theorem tc_strict (a b c : Value) : checkTypeCall "zip" ⟨[a, b], [(Str.ofString "strict", c)]⟩ = pure () := by kernel_rfl
theorem nc_strict (a b c : Value) : checkBuiltinCall "zip.__new__" ⟨[.type "zip", a, b], [(Str.ofString "strict", c)]⟩ = pure () := by kernel_rfl
theorem ai_strict (o a b c : Value) : argsOk "object.__init__" ⟨[o, a, b], [(Str.ofString "strict", c)]⟩ := by unfold argsOk; kernel_rfl
abbrev H1 (g : Heap) (a : Addr) : Heap := g.push { cls := .type "tuple_iterator", data := .fields #[.ref a, .int 0 0] }
abbrev H2 (g : Heap) (a b : Addr) : Heap := (H1 g a).push { cls := .type "tuple_iterator", data := .fields #[.ref b, .int 0 0] }
abbrev H3 (g : Heap) (a b : Addr) : Heap := (H2 g a b).push { cls := .type "tuple", data := .seq #[.ref g.objs.size, .ref (H1 g a).objs.size] }
abbrev H4 (g : Heap) (a b : Addr) : Heap := (H3 g a b).push { cls := .type "tuple", data := .seq #[.none, .none] }
abbrev H5 (g : Heap) (a b : Addr) : Heap := (H4 g a b).push { cls := .type "zip", data := .fields #[.none, .bool false, .bool true, .ref (H2 g a b).objs.size, .ref (H3 g a b).objs.size] }
theorem meets_new (a b : Addr) (us vs : Array Value) :
    Meets (Builtin.«zip.__new__» ⟨[.type "zip", .ref a, .ref b], [(Str.ofString "strict", .bool true)]⟩) (fun _ R s => s.heap.IsTuple a us ∧ s.heap.IsTuple b vs ∧
      R (.ok (.ret (.ref (H4 s.heap a b).objs.size))) { s with heap := H5 s.heap a b }) :=
  .of_wp fun pr wo Ar R s hh => by
    obtain ⟨g, ge, dr, tk, os⟩ := s
    obtain ⟨h1, h2, h3⟩ := hh
    have hs := sub_zip
    have T1 : (Shared.mk g ge dr tk os).heap.IsTuple a us := h1
    have T2 : (Shared.mk (H1 g a) ge dr tk os).heap.IsTuple b vs := Heap.IsTuple.push h2 _
    wp_walk using wpAny_pyIter_tuple T1, wpAny_pyIter_tuple T2
    exact ⟨_, rfl, h3⟩
end
end Zs
end DL

set_option maxHeartbeats 1000000
/-! the D-layer: for a, b in zip(x, y, strict=True) -/
namespace DL
namespace Zs
open PySem PySem.Spec PyProof.Rows L2
section
variable {pr : Program} {wo : World} {Ar : Around} {Er : Value → Shared → Prop} {sh : Shared}
theorem call_new {a b : Addr} {us vs : Array Value} {R : Value → Shared → Prop} (t1 : sh.heap.IsTuple a us) (t2 : sh.heap.IsTuple b vs)
    (r : ∀ g, ZipS g (sh.heap.objs.size + 4) (sh.heap.objs.size + 2) (sh.heap.objs.size + 3) .none → IsPair g (sh.heap.objs.size + 2) (.ref sh.heap.objs.size) (.ref (sh.heap.objs.size + 1)) →
      IsPair g (sh.heap.objs.size + 3) .none .none → g.IsTupleIter sh.heap.objs.size a 0 → g.IsTupleIter (sh.heap.objs.size + 1) b 0 →
      (∀ k o, sh.heap.get? k = some o → g.get? k = some o) → R (.ref (sh.heap.objs.size + 4)) { sh with heap := g }) :
    wpAny (model pr wo) Ar (call (.type "zip") [.ref a, .ref b] [(Str.ofString "strict", .bool true)]) R Er sh := by
  refine callType_newKw F.called_zip (by decide) (tc_strict _ _ _) (nc_strict _ _ _) (fun o => ai_strict o _ _ _) F.entry_zip_new (meets_new a b us vs) ⟨t1, t2, ?_⟩
  have z1 : (H1 sh.heap a).objs.size = sh.heap.objs.size + 1 := Heap.size_push ..
  have z2 : (H2 sh.heap a b).objs.size = sh.heap.objs.size + 2 := (Heap.size_push ..).trans (congrArg (· + 1) z1)
  have z3 : (H3 sh.heap a b).objs.size = sh.heap.objs.size + 3 := (Heap.size_push ..).trans (congrArg (· + 1) z2)
  have z4 : (H4 sh.heap a b).objs.size = sh.heap.objs.size + 4 := (Heap.size_push ..).trans (congrArg (· + 1) z3)
  have p1 : ∀ {k o}, sh.heap.get? k = some o → (H1 sh.heap a).get? k = some o := fun e => Heap.get?_push_of_some _ e
  have p2 : ∀ {k o}, (H1 sh.heap a).get? k = some o → (H2 sh.heap a b).get? k = some o := fun e => Heap.get?_push_of_some _ e
  have p3 : ∀ {k o}, (H2 sh.heap a b).get? k = some o → (H3 sh.heap a b).get? k = some o := fun e => Heap.get?_push_of_some _ e
  have p4 : ∀ {k o}, (H3 sh.heap a b).get? k = some o → (H4 sh.heap a b).get? k = some o := fun e => Heap.get?_push_of_some _ e
  have p5 : ∀ {k o}, (H4 sh.heap a b).get? k = some o → (H5 sh.heap a b).get? k = some o := fun e => Heap.get?_push_of_some _ e
  have s1 : (H1 sh.heap a).get? sh.heap.objs.size = some _ := Heap.get?_push_size _ rfl
  have s2 : (H2 sh.heap a b).get? (H1 sh.heap a).objs.size = some _ := Heap.get?_push_size _ rfl
  have s3 : (H3 sh.heap a b).get? (H2 sh.heap a b).objs.size = some _ := Heap.get?_push_size _ rfl
  have s4 : (H4 sh.heap a b).get? (H3 sh.heap a b).objs.size = some _ := Heap.get?_push_size _ rfl
  have e5 : (H5 sh.heap a b).get? (H4 sh.heap a b).objs.size = some _ := Heap.get?_push_size _ rfl
  have e1 := p5 (p4 (p3 (p2 s1)))
  have e2 := p5 (p4 (p3 s2))
  have e3 := p5 (p4 s3)
  have e4 := p5 s4
  rw [z1] at e2
  rw [z2, z1] at e3
  rw [z3] at e4
  rw [z4, z2, z3] at e5
  show _ ∧ _
  rw [z4]
  exact ⟨⟨_, e5, rfl⟩, r _ e5 e3 e4 ⟨_, e1, rfl, rfl⟩ ⟨_, e2, rfl, rfl⟩ fun k o e => p5 (p4 (p3 (p2 (p1 e))))⟩
end
/-- the tuples as they stand at each turn; the end where both are at their ends -/
def ItzS (K : PySem.W.Frag) (a b : Addr) : It :=
  ⟨(RZ.ItzT K a b).go, (RZ.ItzT K a b).yld, fun i H => ∃ xs ys : List V, SqT K H a xs ∧ SqT K H b ys ∧ xs.length ≤ i ∧ ys.length ≤ i⟩
theorem turn {P : Program} {w : World} {K : PySem.W.Frag} {es : List Expr} {kk : Nat} {tp : Pos} {a b q tI tO j1 j2 : Addr} (D : ZipApart q tI tO j1 j2 a b) :
    Turn P w K (.Tuple es kk tp) (ItzS K a b) [q, tI, tO, j1, j2] q (fun i h => ZipS h q tI tO .none ∧ IsPair h tI (.ref j1) (.ref j2) ∧ (∃ x y, IsPair h tO x y) ∧ h.IsTupleIter j1 a i ∧ h.IsTupleIter j2 b i) where
  mem := List.mem_cons_self
  obj := fun i h st c hc => by
    obtain ⟨hz, hI, ⟨x, y, hO⟩, ⟨o1, e1, _, d1⟩, ⟨o2, e2, _, d2⟩⟩ := st
    simp only [List.mem_cons, List.not_mem_nil, or_false] at hc
    rcases hc with rfl | rfl | rfl | rfl | rfl
    · exact ⟨_, hz, fun v z => nomatch z⟩
    · exact ⟨_, hI, fun v z => nomatch z⟩
    · exact ⟨_, hO, fun v z => nomatch z⟩
    · exact ⟨o1, e1, fun v z => by rw [d1] at z; cases z⟩
    · exact ⟨o2, e2, fun v z => by rw [d2] at z; cases z⟩
  keep := fun i h h' st k => by
    obtain ⟨hz, hI, ⟨x, y, hO⟩, n1, n2⟩ := st
    exact ⟨k q (by simp) _ hz, k tI (by simp) _ hI, ⟨x, y, k tO (by simp) _ hO⟩, n1.at fun o e => k j1 (by simp) o e, n2.at fun o e => k j2 (by simp) o e⟩
  item := by
    intro X eP ew eK hc i pins s σ H E I hf st hg
    subst eP; subst ew; subst eK
    obtain ⟨hz, hI, ⟨x0, y0, hO⟩, n1, n2⟩ := st
    obtain ⟨xs, ys, x, y, sx, sy, hx, hy⟩ := hg
    obtain ⟨us, r1, p1, _⟩ := I.tuple sx
    obtain ⟨vs, r2, p2, _⟩ := I.tuple sy
    obtain ⟨u, hu, ru⟩ := r1.get hx
    obtain ⟨v, hv, rv⟩ := r2.get hy
    have lq : q < s.heap.objs.size := Heap.lt_size hz
    refine py_go D hz hI hO n1 n2 p1 p2 (a := u) (b := v) (by simpa using hu) (by simpa using hv) fun g Zg Og m1 m2 Tg sz kg => ?_
    refine ⟨_, rfl, let_go (sh := { s with heap := g }) Zg fun g2 Zg2 sb => ?_⟩
    have T2 : g2.get? s.heap.objs.size = some { cls := .type "tuple", data := .seq #[u, v] } := (sb.2 _ (Nat.ne_of_gt lq)).trans Tg
    have okT : ObjOk X.prog X.w (upd H s.heap.objs.size (.tup [x, y])) g2 s.heap.objs.size (.tup [x, y]) :=
      ⟨by show 2 ≤ sizeLine; decide, [u, v], .cons ru (.cons rv .nil), ⟨_, T2, rfl, _, rfl⟩⟩
    have I2 : Inv X pins σ (upd H s.heap.objs.size (.tup [x, y])) { s with heap := g2 } :=
      I.turnedNew (t' := s.toks) (ch := [q, tI, tO, j1, j2]) (fun c o nb e => (sb.2 c (fun z => nb (by rw [z]; simp))).trans (kg c o (fun z => nb (by rw [z]; simp)) (fun z => nb (by rw [z]; simp)) (fun z => nb (by rw [z]; simp)) (fun z => nb (by rw [z]; simp)) e)) hf (Nat.le_refl _) okT
    refine ⟨.ref s.heap.objs.size, _, I2, rfl, ⟨_, x, y, rfl, I.hok.fresh (Nat.le_refl _), rfl, fun l hl => by rw [I.tuple_inj hl sx]; exact hx, fun l hl => by rw [I.tuple_inj hl sy]; exact hy⟩, ⟨Zg2, ?_, ⟨u, v, ?_⟩, ?_, ?_⟩, fun c hcm => ?_⟩
    · exact (sb.2 _ D.TIz).trans (kg _ _ D.TIz D.TITO D.TIi1 D.TIi2 hI)
    · exact (sb.2 _ D.TOz).trans Og
    · exact m1.at fun o e => (sb.2 _ D.i1z).trans e
    · exact m2.at fun o e => (sb.2 _ D.i2z).trans e
    · have lt : c < s.heap.objs.size := by
        have hcm' := hcm
        simp only [List.mem_cons, List.not_mem_nil, or_false] at hcm'
        rcases hcm' with rfl | rfl | rfl | rfl | rfl
        · exact lq
        · exact Heap.lt_size hI
        · exact Heap.lt_size hO
        · obtain ⟨_, e, _⟩ := n1; exact Heap.lt_size e
        · obtain ⟨_, e, _⟩ := n2; exact Heap.lt_size e
      rw [upd_ne (Nat.ne_of_lt lt)]
      exact (hf c hcm).1
  done := by
    intro X eP ew eK hc i pins s σ H E I hf st hg
    subst eP; subst ew; subst eK
    obtain ⟨hz, hI, ⟨x0, y0, hO⟩, n1, n2⟩ := st
    obtain ⟨xs, ys, sx, sy, e1, e2⟩ := hg
    obtain ⟨us, r1, p1, _⟩ := I.tuple sx
    obtain ⟨vs, r2, p2, _⟩ := I.tuple sy
    have l1 := r1.length
    have l2 := r2.length
    refine py_stop (I.ok.hd hc) D hz hI hO n1 n2 p1 p2 (by simp; omega) (by simp; omega) fun g kg => ⟨rfl, ?_⟩
    exact I.turnedL (t' := s.toks) (ch := [q, tI, tO, j1, j2]) (fun c o nb e => kg c o (fun z => nb (by rw [z]; simp)) (fun z => nb (by rw [z]; simp)) (fun z => nb (by rw [z]; simp)) (fun z => nb (by rw [z]; simp)) e) hf
  self := fun A i s Q E st h => it_self st.1 h
section
variable {M : Model} {A : Around} {E : Value → Shared → Prop} {s : Shared} {env : Env}
theorem callWith_tyK {pos : Pos} {T : String} {e : Expr} {rest : List Expr} {kws : List Keyword} {Q : Value → Shared → Prop}
    (h : wpAny M A (spliced (backTo pos (starEach (e :: rest) env))) (fun vs t => wpAny M A (evalAll ((backToKw pos (keywordEach kws env)).map (·.2)))
      (fun ks t' => wpAny M A (call (.type T) vs (((backToKw pos (keywordEach kws env)).filterMap (·.1)).zip ks)) Q E t') E t) E s)
    (h1 : backTo pos (starEach (e :: rest) env) = (false, eval e env) :: backTo pos (starEach rest env)) (h2 : (backTo pos (starEach (e :: rest) env)).any (·.1) = false)
    (h3 : (backToKw pos (keywordEach kws env)).all (·.1.isSome) = true) (h4 : (backToKw pos (keywordEach kws env)).any (·.1.isNone) = false) :
    wpAny M A (callWith pos (.type T) [] (backTo pos (starEach (e :: rest) env)) (backToKw pos (keywordEach kws env))) Q E s := by
  have arg : wpAny M A (evalArgs (.type T) true (backTo pos (starEach (e :: rest) env)) (backToKw pos (keywordEach kws env))) (fun a t => wpAny M A (call (.type T) ([] ++ a.pos) a.kw) Q E t) E s := by
    rw [h1] at h ⊢
    exact PyProof.Rows.evalArgs_kwB h3 h
  unfold callWith
  refine wpAny_bind (wpAny_holding (wpAny_mono arg (fun a t ha => wpAny_bind (wpAny_standAt ?_)) fun _ _ z => z))
  simp only [h2, h4, Bool.or_false]
  refine wpAny_bind (wpAny_pure (wpAny_bind (wpAny_mono ha (fun r t' hr => ?_) fun _ _ z => z)))
  exact wpAny_bind (wpAny_holding (wpAny_point (wpAny_pure hr)))
end
def iZipS (K : PySem.W.Frag) (ta : TA) : TI := fun σ H R => ta σ H fun vs H1 => ∃ a b xs ys, vs = [.ref a, .ref b] ∧ SqT K H1 a xs ∧ SqT K H1 b ys ∧ R (ItzS K a b) H1
theorem pi_zipS {X : Cx} {e e2 : Expr} {ta : TA} {p pos tpos kp cp : Pos} {elts : List Expr} {kk kc : Nat} (hg : Gl X "zip") (hm : X.mg "zip" = none) (ha : PA X [e, e2] ta)
    (h1 : backTo pos (starEach [e, e2] X.env) = (false, eval e X.env) :: backTo pos (starEach [e2] X.env) := by rfl) (h2 : (backTo pos (starEach [e, e2] X.env)).any (·.1) = false := by rfl) :
    PI X (.Tuple elts kk tpos) (.Call (.Name "zip" p) [e, e2] [⟨some "strict", .Constant (.bool true) kc cp, kp⟩] pos) (iZipS X.K ta) := by
  refine ⟨fun pins s σ H R I h => ?_⟩
  refine wpAny_Call_Name_kw (ld_blt I hg hm PyProof.Rows.boot_zip (callWith_tyK (thn (ha.run pos pins s σ H _ I h) fun us s1 ⟨vs, H1, I1, r1, q1⟩ => ?_) h1 h2 rfl rfl))
  have hk : PK X [⟨some "strict", .Constant (.bool true) kc cp, kp⟩] (tCons (tC (.bl true)) tNil) := pk_cons pe_bl pk_nil
  refine thn (hk.run pos pins s1 σ H1 (fun zs H2 => zs = [V.bl true] ∧ H2 = H1) I1 ⟨rfl, rfl⟩) fun ws s2 ⟨zs, H2, I2, r2, ez, eH⟩ => ?_
  subst ez; subst eH
  obtain ⟨a, b, xs, ys, ex, sx, sy, q⟩ := q1
  subst ex
  obtain ⟨u1, u2, rfl, ra, rb⟩ := vals2 r1
  cases (show u1 = Value.ref a from ra)
  cases (show u2 = Value.ref b from rb)
  obtain ⟨w1, rfl, rw1⟩ := vals1 r2
  cases (show w1 = Value.bool true from rw1)
  have fresh5 : ∀ c, c ∈ [s2.heap.objs.size + 4, s2.heap.objs.size + 2, s2.heap.objs.size + 3, s2.heap.objs.size, s2.heap.objs.size + 1] → FpOk X pins H2 c := fun c hc => by
    have le : s2.heap.objs.size ≤ c := by
      simp only [List.mem_cons, List.not_mem_nil, or_false] at hc
      omega
    exact I2.fpOk le (I2.hok.fresh le)
  obtain ⟨us, rv, p1, _⟩ := I2.tuple sx
  obtain ⟨vs, rv2, p2, _⟩ := I2.tuple sy
  obtain ⟨o1, ho1, _⟩ := id p1
  obtain ⟨o2, ho2, _⟩ := id p2
  show wpAny _ _ (call (.type "zip") [.ref a, .ref b] [(Str.ofString "strict", .bool true)]) _ _ _
  refine call_new (show s2.heap.IsTuple a us.toArray from p1) (show s2.heap.IsTuple b vs.toArray from p2) fun g Z pI pO n1 n2 kg => it_self Z ?_
  have I3 : Inv X pins σ H2 { s2 with heap := g } := I2.kept (t' := s2.toks) kg
  exact ⟨s2.heap.objs.size + 4, [s2.heap.objs.size + 4, s2.heap.objs.size + 2, s2.heap.objs.size + 3, s2.heap.objs.size, s2.heap.objs.size + 1], _, _, H2, rfl, I3, turn (PySem.W.ktu_apart s2.heap.objs.size a b (Heap.lt_size ho1) (Heap.lt_size ho2)), ⟨Z, pI, ⟨_, _, pO⟩, n1, n2⟩, fresh5, q⟩
end Zs
end DL

/-! the D-layer: strict zip as data -/
namespace DL
open PySem L2
theorem ItOk.zsT {K : PySem.W.Frag} {ι : List Addr} {H : Hp} {p q : Addr} {vs us : List V} {xs ys : List D} (s1 : SqT K H p vs) (s2 : SqT K H q us) (r1 : RDs K ι H xs vs) (r2 : RDs K ι H ys us) (hl : xs.length = ys.length) :
    ItOk K ι H (Zs.ItzS K p q) (.zpT xs ys) := fun ι' H' S i x rs => by
  have base := ItOk.zpT s1 s2 r1 r2 ι' H' S i x rs
  unfold Src.at_ at base ⊢
  dsimp only at base ⊢
  cases e2 : zpAt xs ys i with
  | none =>
    refine ⟨vs, us, x.tup _ _ s1, x.tup _ _ s2, ?_, ?_⟩
    · rw [r1.length]
      rcases zpAt_none e2 with h | h <;> omega
    · rw [r2.length]
      rcases zpAt_none e2 with h | h <;> omega
  | some d =>
    rw [e2] at base
    exact base
def iZpS (ms : AM) : IM := fun ρ S => (ms ρ S).bind fun ds S1 => match ds with
  | [.tup xs, .tup ys] => if xs.length = ys.length then .ok (.zpT xs ys) S1 else .stk
  | _ => .stk
section
variable {X : Cx} {W : WX} {e e2 : Expr} {ms : AM} {p pos : Pos}
theorem si_zipS {elts : List Expr} {kk kc : Nat} {tpos cp kp : Pos} (hg : Gl X "zip") (hm : X.mg "zip" = none) (ha : SA X W [e, e2] ms)
    (h1 : backTo pos (starEach [e, e2] X.env) = (false, eval e X.env) :: backTo pos (starEach [e2] X.env) := by rfl) (h2 : (backTo pos (starEach [e, e2] X.env)).any (·.1) = false := by rfl) :
    SI X W (.Tuple elts kk tpos) (.Call (.Name "zip" p) [e, e2] [⟨some "strict", .Constant (.bool true) kc cp, kp⟩] pos) (iZpS ms) := by
  refine PI.imp (Zs.pi_zipS hg hm ha h1 h2) fun σ H Q h => ?_
  obtain ⟨ι, ρ, S, re, rs, h⟩ := h
  refine ⟨ι, ρ, S, re, rs, PR.imp (fun v H1 hh => ?_) (PR.bind (rel := rDs X.K) h)⟩
  obtain ⟨ι1, d, S1, x1, rs1, r1, h1⟩ := hh
  split at h1
  · rename_i xs ys
    split at h1
    · rename_i hl
      simp only [rDs, RDs, RD] at r1
      obtain ⟨v1, _, rfl, ⟨p, vs, rfl, q, r⟩, v2, _, rfl, ⟨p2, us, rfl, q2, r2⟩, rfl⟩ := r1
      exact ⟨p, p2, vs, us, rfl, q, q2, h1.ret rs1 (.zsT q q2 r r2 hl)⟩
    · exact h1.elim
  · exact h1.elim
end
end DL

set_option maxHeartbeats 1000000
/-! the D-layer: small facts for the plain laws -/
namespace DL
open PySem L2
section
variable {A : List Nat} {k w dd W : Nat} {S : Sto} {d : D} {p : PyData} {h c : Nat} {l l' : List D}
theorem len_str {z : Str} (h : z.length ≤ sizeLine) : bLen [.str z] S = some (.int z.length, S) := by
  unfold bLen itemsD
  simp only [if_pos h]
theorem in_sign (c : Nat) (z : Str) : dIn (.str ⟨#[c]⟩) (.str z) S = some (.bl (decide (c ∈ z.cps.toList)), S) := by
  unfold dIn inD
  have h : (⟨#[c]⟩ : Str).length = 1 := rfl
  simp only [if_pos h, Option.map_some]
  rfl
theorem le_i (i j : Int) : dLe (.int i) (.int j) S = some (.bl (decide (i ≤ j)), S) := rfl
theorem lt_i (i j : Int) : dLt (.int i) (.int j) S = some (.bl (decide (i < j)), S) := rfl
theorem gt_i (i j : Int) : dGt (.int i) (.int j) S = some (.bl (decide (j < i)), S) := rfl
theorem eq_i (i j : Int) : dEq (.int i) (.int j) S = some (.bl (decide (i = j)), S) := by
  show some (D.bl (decide (V.int i = V.int j)), S) = _
  congr 3
  simp
theorem eq_s (i j : Str) : dEq (.str i) (.str j) S = some (.bl (decide (i = j)), S) := by
  show some (D.bl (decide (V.str i = V.str j)), S) = _
  congr 3
  simp
theorem len_signs (z : Str) : (signs z).length = z.length := by
  unfold signs
  simp [Str.length]
theorem eq_nil {S : Sto} {c n : Nat} {xs : List D} (e : S[c]? = some (.lst xs)) (e2 : S[n]? = some (.lst [])) : dEq (.ref c) (.ref n) S = some (.bl xs.isEmpty, S) := by
  have a : seqAt S c = some xs := by unfold seqAt; rw [e]
  have b : seqAt S n = some [] := by unfold seqAt; rw [e2]
  unfold dEq eqD eq0
  simp only [a, b, List.isEmpty_nil, Bool.or_true, if_true, Bool.and_true, Option.map_some]
theorem eq_unit {xs : List D} : dEq (.tup xs) (.tup []) S = some (.bl xs.isEmpty, S) := by
  unfold dEq eqD eq0
  simp only [List.isEmpty_nil, Bool.or_true, if_true, Bool.and_true, Option.map_some]
theorem ne_unit {xs : List D} : dNe (.tup xs) (.tup []) S = some (.bl (!xs.isEmpty), S) := by
  unfold dNe eqD eq0
  simp only [List.isEmpty_nil, Bool.or_true, if_true, Bool.and_true, Option.map_some]
theorem ord_c (c : Nat) : bOrd [.str ⟨#[c]⟩] S = some (.int c, S) := rfl
theorem sees_map {β : Type} (h : Option PyData → β) : ∀ {xs : List D} {ps : List PyData}, sees A k S xs = some ps → xs.map (fun d => h (see A k S d)) = ps.map fun p => h (some p)
  | [], ps, e => by simp only [sees_nil, Option.some.injEq] at e; subst e; rfl
  | d :: ds, ps, e => by
    obtain ⟨p, qs, rfl, e1, e2⟩ := sees_inv e
    rw [List.map_cons, List.map_cons, e1, sees_map h e2]
theorem sees_mem : ∀ {xs : List D} {ps : List PyData} {d : D}, sees A k S xs = some ps → d ∈ xs → ∃ p ∈ ps, see A k S d = some p
  | [], _, _, _, h => by cases h
  | x :: xs, ps, d, e, h => by
    obtain ⟨p, qs, rfl, e1, e2⟩ := sees_inv e
    rcases List.mem_cons.mp h with rfl | h
    · exact ⟨p, List.mem_cons_self, e1⟩
    · obtain ⟨q, h1, h2⟩ := sees_mem e2 h
      exact ⟨q, List.mem_cons_of_mem _ h1, h2⟩
theorem sees_concat {ys : List D} {l : D} {ps : List PyData} (e : sees A k S (ys ++ [l]) = some ps) : ∃ qs pl, ps = qs ++ [pl] ∧ sees A k S ys = some qs ∧ see A k S l = some pl := by
  have h1 := sees_take ys.length e
  rw [List.take_left] at h1
  have h2 := sees_drop ys.length e
  rw [List.drop_left] at h2
  obtain ⟨p, qs, e1, e2, e3⟩ := sees_inv h2
  simp only [sees_nil, Option.some.injEq] at e3
  subst e3
  exact ⟨_, p, by rw [← e1, List.take_append_drop], h1, e2⟩
theorem cut_init (ys : List D) (l : D) : cutD (ys ++ [l]) none (some (-1)) = ys := by
  unfold cutD
  have h1 : HT.sIx (ys ++ [l]).length 0 none = 0 := rfl
  have h2 : HT.sIx (ys ++ [l]).length (ys ++ [l]).length (some (-1)) = ys.length := by
    show (if (-1 : Int) < 0 then ((-1 : Int) + ((ys ++ [l]).length : Int)).toNat else min (-1 : Int).toNat (ys ++ [l]).length) = _
    rw [if_pos (by decide), List.length_append]
    simp only [List.length_cons, List.length_nil]
    omega
  rw [h1, h2, List.drop_zero, Nat.sub_zero, List.take_left]
theorem sl_init (ys : List D) (l : D) : dSl (.tup (ys ++ [l])) none (some (-1)) S = some (.tup ys, S) := by
  show some (D.tup (cutD (ys ++ [l]) none (some (-1))), S) = _
  rw [cut_init]
theorem ix_last (ys : List D) (l : D) : dIx (.tup (ys ++ [l])) (.int (-1)) S = some (l, S) := by
  unfold dIx
  simp only [atI_last, Option.map_some]
theorem neg1 : dNeg (.int 1) S = some (.int (-1), S) := rfl
theorem snoc (xs : List D) : xs = [] ∨ ∃ ys l, xs = ys ++ [l] := by
  rcases List.eq_nil_or_concat xs with h | ⟨ys, l, h⟩
  · exact .inl h
  · exact .inr ⟨ys, l, by rw [h, List.concat_eq_append]⟩
theorem at_nat {α : Type} {xs : List α} {i : Int} (h0 : 0 ≤ i) (h1 : i < xs.length) : ∃ x, x ∈ xs ∧ atI xs i = some x := by
  have hl : i.toNat < xs.length := by omega
  refine ⟨xs[i.toNat], List.getElem_mem hl, ?_⟩
  unfold atI ixN
  rw [if_pos h0, if_pos h1, Option.bind_some, List.getElem?_eq_getElem hl]
theorem ix_lst {n : Nat} {xs : List D} (e : S[n]? = some (.lst xs)) {i : Int} {x : D} (hx : atI xs i = some x) : dIx (.ref n) (.int i) S = some (x, S) := by
  unfold dIx
  have : seqAt S n = some xs := by unfold seqAt; rw [e]
  simp only [e, this, Option.bind_some, hx, Option.map_some]
theorem len_lst {n : Nat} {xs : List D} (e : S[n]? = some (.lst xs)) : bLen [.ref n] S = some (.int xs.length, S) := by
  unfold bLen itemsD
  have : seqAt S n = some xs := by unfold seqAt; rw [e]
  simp only [this]
/-- a pick from a list that was just made -/
theorem hand_out (H : Hand h c S) : S.length ∉ [h, c] := by
  have := H.lt
  simp only [List.mem_cons, List.not_mem_nil, or_false, not_or]
  omega
theorem push_hand {x : Cell} (H : Hand h c S) : Adv h c S (S ++ [x]) := H.stp .push
theorem see_adv {S' : Sto} (a : Adv h c S S') (e : see [h, c] k S d = some p) : see [h, c] k S' d = some p := see_stp a.2 e
/-- data without any object -/
def con (d : D) : Option PyData := toPw (fun _ => none) d
theorem con_see {A : List Nat} {k : Nat} {S : Sto} {d : D} {p : PyData} (e : con d = some p) : see A k S d = some p := toPw_mono (fun _ _ h => by cases h) e
def limB (w d : Nat) (p : PyData) : Bool := fit p && decide (wt p ≤ w) && decide (p.depth ≤ d)
theorem limB_of {w d : Nat} {p : PyData} (h : limB w d p = true) : Lim w d p := by
  simp only [limB, Bool.and_eq_true, decide_eq_true_eq] at h
  exact ⟨h.1.1, h.1.2, h.2⟩
theorem join_nil : ∀ zs : List Str, (Str.join (Str.ofString "") zs).cps.toList = (zs.map fun z => z.cps.toList).flatten
  | [] => rfl
  | [x] => by show x.cps.toList = _; simp
  | x :: y :: r => by
    show (x ++ Str.ofString "" ++ Str.join (Str.ofString "") (y :: r)).cps.toList = _
    rw [cps_append, cps_append, join_nil (y :: r)]
    have : (Str.ofString "").cps.toList = [] := by decide +kernel
    rw [this]
    simp
theorem join_txt (y : Str) (parts : List Str) : Txt.join y parts = Str.join y parts := StrLaws.glued_eq_join y parts
/-- readable beside the hand, and small -/
def Val (h c k w d : Nat) (S : Sto) (x : D) : Prop := ∃ p, see [h, c] k S x = some p ∧ Lim w d p
theorem Val.adv {S' : Sto} {x : D} (v : Val h c k w dd S x) (a : Adv h c S S') : Val h c k w dd S' x := by
  obtain ⟨p, e, l⟩ := v
  exact ⟨p, see_adv a e, l⟩
theorem Val.mono {k' w' d' : Nat} {x : D} (v : Val h c k w dd S x) (h1 : k ≤ k') (h2 : w ≤ w') (h3 : dd ≤ d') : Val h c k' w' d' S x := by
  obtain ⟨p, e, l⟩ := v
  exact ⟨p, see_le h1 e, l.mono h2 h3⟩
/-- of objects without objects in them, by counting -/
def conB (w d : Nat) (x : D) : Bool := match con x with
  | some p => limB w d p
  | none => false
theorem conB_val {x : D} (e : conB w dd x = true) : Val h c k w dd S x := by
  unfold conB at e
  split at e
  · rename_i p ep
    exact ⟨p, con_see ep, limB_of e⟩
  · cases e
theorem add_lst {n m : Nat} {xs ys : List D} (e1 : S[n]? = some (.lst xs)) (e2 : S[m]? = some (.lst ys)) (hl : xs.length + ys.length ≤ 100000) : dAdd (.ref n) (.ref m) S = some (.ref S.length, S ++ [.lst (xs ++ ys)]) := by
  unfold dAdd
  simp only [e1, e2]
  rw [if_pos (Nat.le_trans hl (by decide))]
theorem new_at (x : Cell) : (S ++ [x])[S.length]? = some x := by simp
theorem old_at {n : Nat} {y : Cell} (x : Cell) (e : S[n]? = some y) : (S ++ [x])[n]? = some y := (Stp.push (A := [])).at_ (by simp) e
/-- a row of values -/
def Vals (h c k W d : Nat) (S : Sto) (l : List D) : Prop := ∃ ps, sees [h, c] k S l = some ps ∧ (∀ p ∈ ps, fit p = true ∧ p.depth ≤ d) ∧ wts ps ≤ W
theorem Vals.nil : Vals h c k W dd S [] := ⟨[], sees_nil, (fun p hp => by cases hp), Nat.zero_le _⟩
theorem Vals.app {W' : Nat} (a : Vals h c k W dd S l) (b : Vals h c k W' dd S l') : Vals h c k (W + W') dd S (l ++ l') := by
  obtain ⟨ps, e, f, g⟩ := a
  obtain ⟨qs, e', f', g'⟩ := b
  refine ⟨ps ++ qs, sees_append e e', fun p hp => ?_, by rw [wts_app]; omega⟩
  rcases List.mem_append.mp hp with hp | hp
  · exact f p hp
  · exact f' p hp
theorem Vals.cut (a : Vals h c k W dd S l) (lo hi : Option Int) : Vals h c k W dd S (cutD l lo hi) := by
  obtain ⟨ps, e, f, g⟩ := a
  unfold cutD
  refine ⟨_, sees_take _ (sees_drop _ e), fun p hp => f p (List.drop_subset _ _ (List.take_subset _ _ hp)), ?_⟩
  exact Nat.le_trans (wts_take _ _) (Nat.le_trans (wts_drop _ _) g)
theorem Vals.one (a : Val h c k w dd S d) : Vals h c k (w + 2) dd S [d] := by
  obtain ⟨p, e, f, g, q⟩ := a
  refine ⟨[p], sees_cons e sees_nil, fun x hx => ?_, ?_⟩
  · rw [List.mem_singleton.mp hx]; exact ⟨f, q⟩
  · simp only [wts]; omega
theorem Vals.mono {k' W' d' : Nat} (a : Vals h c k W dd S l) (h1 : k ≤ k') (h2 : W ≤ W') (h3 : dd ≤ d') : Vals h c k' W' d' S l := by
  obtain ⟨ps, e, f, g⟩ := a
  exact ⟨ps, sees_le h1 e, fun p hp => ⟨(f p hp).1, Nat.le_trans (f p hp).2 h3⟩, Nat.le_trans g h2⟩
theorem Vals.adv {S' : Sto} (a : Vals h c k W dd S l) (x : Adv h c S S') : Vals h c k W dd S' l := by
  obtain ⟨ps, e, f, g⟩ := a
  exact ⟨ps, sees_stp x.2 e, f, g⟩
theorem Vals.len (a : Vals h c k W dd S l) : l.length ≤ W := by
  obtain ⟨ps, e, f, g⟩ := a
  have := wts_len ps
  rw [sees_len e] at this
  omega
theorem Vals.tup (a : Vals h c k W dd S l) : Val h c k (W + 3) (dd + 1) S (.tup l) := by
  obtain ⟨ps, e, f, g⟩ := a
  refine ⟨_, see_tup e, lim_tup.mpr ⟨fun p hp => (f p hp).1, by omega, ?_⟩⟩
  have := depth_all.mpr fun p hp => (f p hp).2
  omega
theorem Vals.lst {n : Nat} (a : Vals h c k W dd S l) (e0 : S[n]? = some (.lst l)) (hn : n ∉ [h, c]) : Val h c (k + 1) (W + 3) (dd + 1) S (.ref n) := by
  obtain ⟨ps, e, f, g⟩ := a
  refine ⟨_, see_lst e0 hn e, ?_, ?_, ?_⟩
  · simp only [fit]; exact fits_all.mpr fun p hp => (f p hp).1
  · simp only [wt]; omega
  · have := depth_all.mpr fun p hp => (f p hp).2
    simp only [PyData.depth]; omega
theorem Val.items (a : Val h c k w dd S (.tup l)) : Vals h c k w dd S l := by
  obtain ⟨p, e, lim⟩ := a
  obtain ⟨ps, rfl, e1⟩ := see_tup_inv e
  refine ⟨ps, e1, fun q hq => ⟨(lim.mem hq).f, (lim.mem hq).d⟩, ?_⟩
  have := lim.w
  simp only [wt] at this
  omega
theorem vals_con (h1 : l.all (conB w dd) = true) : Vals h c k (l.length * (w + 2)) dd S l := by
  induction l with
  | nil => exact .nil
  | cons x l ih =>
    rw [List.all_cons, Bool.and_eq_true] at h1
    have a : Val h c k w dd S x := conB_val h1.1
    have := (Vals.one a).app (ih h1.2)
    refine this.mono (Nat.le_refl _) ?_ (Nat.le_refl _)
    rw [List.length_cons, Nat.add_mul]; omega
theorem vals_rep (a : Vals h c k W dd S l) : ∀ n : Nat, Vals h c k (n * W) dd S (List.replicate n l).flatten
  | 0 => by simpa using Vals.nil
  | n + 1 => by
    rw [List.replicate_succ, List.flatten_cons]
    refine (a.app (vals_rep a n)).mono (Nat.le_refl _) ?_ (Nat.le_refl _)
    rw [Nat.add_mul]; omega
theorem add_tup {xs ys : List D} (hl : xs.length + ys.length ≤ 1000000) : dAdd (.tup xs) (.tup ys) S = some (.tup (xs ++ ys), S) := by
  unfold dAdd
  simp only []
  rw [if_pos (Nat.le_trans hl (by decide))]
theorem sl_tup {xs : List D} (lo hi : Option Int) : dSl (.tup xs) lo hi S = some (.tup (cutD xs lo hi), S) := rfl
theorem tuple_lst {n : Nat} {xs : List D} (e : S[n]? = some (.lst xs)) : bTuple [.ref n] S = some (.tup xs, S) := by
  unfold bTuple itemsD
  have : seqAt S n = some xs := by unfold seqAt; rw [e]
  simp only [this, Option.map_some]
theorem len_tup {xs : List D} : bLen [.tup xs] S = some (.int xs.length, S) := rfl
theorem sl_lst {n : Nat} {xs : List D} (e : S[n]? = some (.lst xs)) (lo hi : Option Int) : dSl (.ref n) lo hi S = some (.ref S.length, S ++ [.lst (cutD xs lo hi)]) := by
  unfold dSl
  have : seqAt S n = some xs := by unfold seqAt; rw [e]
  simp only [this, Option.map_some]
theorem mul_lst {n m : Nat} {xs : List D} (e : S[n]? = some (.lst xs)) (hl : xs.length * m ≤ 1000000) (hm : m ≤ 1000000) : dMul (.ref n) (.int (m : Int)) S = some (.ref S.length, S ++ [.lst (List.replicate m xs).flatten]) := by
  unfold dMul
  simp only [e, Int.toNat_natCast]
  rw [if_pos]
  simp only [Bool.and_eq_true, decide_eq_true_eq]
  exact ⟨⟨by omega, by omega⟩, Nat.le_trans hl (by decide)⟩
theorem seq_of {n : Nat} {xs : List D} (e : S[n]? = some (.lst xs)) : seqAt S n = some xs := by unfold seqAt; rw [e]
theorem at_adv {n : Nat} {xs : List D} {S' : Sto} (e : S[n]? = some (.lst xs)) (hn : n ∉ [h, c]) (a : Adv h c S S') (i : Nat) : (Src.lst n).at_ i S' = some xs[i]? := by
  unfold Src.at_
  simp only [seq_of (a.2.at_ hn e), Option.map_some]
end
end DL

set_option maxHeartbeats 1000000
/-! the D-layer: == of data; tuples of texts -/
namespace DL
open PySem L2
theorem eqvAll_empty {ps qs : List PyData} (h : (ps.isEmpty || qs.isEmpty) = true) : PyData.eqvAll ps qs = (ps.isEmpty && qs.isEmpty) := by
  cases ps <;> cases qs <;> first | rfl | (simp at h)
theorem gP_seq {k n : Nat} {S : Sto} {xs : List D} {p : PyData} (e : seqAt S n = some xs) (h : gP k S n = some p) : ∃ ps, p = .list ps ∧ ps.length = xs.length := by
  cases k with
  | zero => simp only [gP] at h; cases h
  | succ k =>
    unfold gP at h
    unfold seqAt at e
    split at h
    · rename_i ys ey
      rw [ey] at e; cases e
      obtain ⟨ps, e1, rfl⟩ := Option.map_eq_some_iff.mp h
      exact ⟨ps, rfl, toPws_len e1⟩
    · rename_i ys ey
      rw [ey] at e; cases e
      obtain ⟨ps, e1, rfl⟩ := Option.map_eq_some_iff.mp h
      exact ⟨ps, rfl, toPws_len e1⟩
    · rename_i ys ey
      rw [ey] at e; cases e
    · cases h
theorem emp_len {α β : Type} {a : List α} {b : List β} (h : a.length = b.length) : a.isEmpty = b.isEmpty := by
  cases a <;> cases b <;> first | rfl | cases h
/-- == told by what is read -/
theorem eq_of {S : Sto} {x y : D} {p q : PyData} (ex : toP S x = some p) (ey : toP S y = some q) (hp : SeqAt.shaped p = true) (hq : SeqAt.shaped q = true) (hf : flatD x = none ∨ flatD y = none) : eqD x y S = some (PyData.eqv p q) := by
  have e1 : eqD1 x y S = some (PyData.eqv p q) := by
    unfold eqD1
    have : (SeqAt.shaped p && SeqAt.shaped q) = true := by rw [hp, hq]; rfl
    rcases hf with h | h
    · simp only [h, ex, ey, if_pos this]
    · cases hx : flatD x with
      | none => simp only [ex, ey, if_pos this]
      | some a => simp only [h, ex, ey, if_pos this]
  unfold eqD
  cases h0 : eq0 x y S with
  | none => exact e1
  | some b =>
    show some b = _
    unfold eq0 at h0
    split at h0
    · rename_i xs ys
      split at h0
      · rename_i he
        cases h0
        unfold toP at ex ey
        simp only [toPw] at ex ey
        obtain ⟨ps, a1, rfl⟩ := Option.map_eq_some_iff.mp ex
        obtain ⟨qs, a2, rfl⟩ := Option.map_eq_some_iff.mp ey
        rw [← emp_len (toPws_len a1), ← emp_len (toPws_len a2)] at he ⊢
        show some _ = some (PyData.eqvAll ps qs)
        rw [eqvAll_empty he]
      · cases h0
    · rename_i n m
      split at h0
      · rename_i xs ys hn hm
        split at h0
        · rename_i he
          cases h0
          unfold toP at ex ey
          simp only [toPw] at ex ey
          obtain ⟨ps, rfl, l1⟩ := gP_seq hn ex
          obtain ⟨qs, rfl, l2⟩ := gP_seq hm ey
          rw [← emp_len l1, ← emp_len l2] at he ⊢
          show some _ = some (PyData.eqvAll ps qs)
          rw [eqvAll_empty he]
        · cases h0
      · cases h0
    · cases h0
/-! ### tuples of texts -/
def tD (f : List Str) : D := .tup (f.map .str)
def pT (f : List Str) : PyData := .tuple (f.map .str)
theorem toPws_strs (g : Nat → Option PyData) : ∀ f : List Str, toPws g (f.map D.str) = some (f.map PyData.str)
  | [] => by simp only [List.map_nil, toPws]
  | x :: f => by simp only [List.map_cons, toPws, toPw, toPws_strs g f, Option.bind_some, Option.map_some]
theorem toPw_tD (g : Nat → Option PyData) (f : List Str) : toPw g (tD f) = some (pT f) := by
  unfold tD pT
  simp only [toPw, toPws_strs, Option.map_some]
theorem toPws_tDs (g : Nat → Option PyData) : ∀ fs : List (List Str), toPws g (fs.map tD) = some (fs.map pT)
  | [] => by simp only [List.map_nil, toPws]
  | x :: fs => by simp only [List.map_cons, toPws, toPw_tD, toPws_tDs g fs, Option.bind_some, Option.map_some]
theorem eqvAll_strs : ∀ a b : List Str, PyData.eqvAll (a.map PyData.str) (b.map PyData.str) = decide (a = b)
  | [], [] => by simp [PyData.eqvAll]
  | [], _ :: _ => by simp [PyData.eqvAll]
  | _ :: _, [] => by simp [PyData.eqvAll]
  | x :: a, y :: b => by
    simp only [List.map_cons, PyData.eqvAll, PyData.eqv, eqvAll_strs a b, List.cons.injEq]
    by_cases h : x = y <;> simp [h]
theorem eqv_pT (a b : List Str) : PyData.eqv (pT a) (pT b) = decide (a = b) := by
  unfold pT
  simp only [PyData.eqv, eqvAll_strs]
theorem eqvAll_pT : ∀ a b : List (List Str), PyData.eqvAll (a.map pT) (b.map pT) = decide (a = b)
  | [], [] => by simp [PyData.eqvAll]
  | [], _ :: _ => by simp [PyData.eqvAll]
  | _ :: _, [] => by simp [PyData.eqvAll]
  | x :: a, y :: b => by
    simp only [List.map_cons, PyData.eqvAll, eqv_pT, eqvAll_pT a b, List.cons.injEq]
    by_cases h : x = y <;> simp [h]
theorem depth_strs : ∀ f : List Str, PyData.depthAll (f.map PyData.str) = 0
  | [] => rfl
  | x :: f => by simp only [List.map_cons, PyData.depthAll, PyData.depth, depth_strs f]; rfl
theorem lay_strs : ∀ {f : List Str}, (∀ z ∈ f, PyData.strOk z = true) → PyData.canLayAll0 (f.map PyData.str) = true
  | [], _ => rfl
  | x :: f, h => by
    simp only [List.map_cons, PyData.canLayAll0, PyData.canLay0, h x List.mem_cons_self, lay_strs fun z hz => h z (List.mem_cons_of_mem _ hz), Bool.and_self]
theorem shaped_pT {f : List Str} (h : ∀ z ∈ f, PyData.strOk z = true) : SeqAt.shaped (pT f) = true := by
  unfold SeqAt.shaped pT
  simp only [PyData.canLay0, lay_strs h, PyData.depth, depth_strs, Bool.true_and]
  rfl
theorem depth_pTs : ∀ fs : List (List Str), PyData.depthAll (fs.map pT) ≤ 1
  | [] => Nat.zero_le _
  | x :: fs => by
    have := depth_pTs fs
    simp only [List.map_cons, PyData.depthAll]
    have hx : (pT x).depth = 1 := by unfold pT; simp only [PyData.depth, depth_strs]
    omega
theorem lay_pTs : ∀ {fs : List (List Str)}, (∀ f ∈ fs, ∀ z ∈ f, PyData.strOk z = true) → PyData.canLayAll0 (fs.map pT) = true
  | [], _ => rfl
  | x :: fs, h => by
    have hx : (pT x).canLay0 = true := by unfold pT; simp only [PyData.canLay0, lay_strs (h x List.mem_cons_self)]
    simp only [List.map_cons, PyData.canLayAll0, hx, Bool.true_and]
    exact lay_pTs fun f hf => h f (List.mem_cons_of_mem _ hf)
theorem shaped_pTs {fs : List (List Str)} (h : ∀ f ∈ fs, ∀ z ∈ f, PyData.strOk z = true) : SeqAt.shaped (.list (fs.map pT)) = true ∧ SeqAt.shaped (.tuple (fs.map pT)) = true := by
  have := depth_pTs fs
  unfold SeqAt.shaped
  simp only [PyData.canLay0, lay_pTs h, PyData.depth, Bool.true_and]
  have hd : decide (PyData.depthAll (fs.map pT) + 1 ≤ 64) = true := decide_eq_true (by omega)
  exact ⟨hd, hd⟩
section
variable {S : Sto} {f g : List Str}
theorem eq_tD (hf : ∀ z ∈ f, PyData.strOk z = true) (hg : ∀ z ∈ g, PyData.strOk z = true) : dEq (tD f) (tD g) S = some (.bl (decide (f = g)), S) := by
  unfold dEq
  rw [eq_of (toPw_tD _ f) (toPw_tD _ g) (shaped_pT hf) (shaped_pT hg) (.inl rfl), eqv_pT]
  rfl
theorem ne_tD (hf : ∀ z ∈ f, PyData.strOk z = true) (hg : ∀ z ∈ g, PyData.strOk z = true) : dNe (tD f) (tD g) S = some (.bl (!decide (f = g)), S) := by
  unfold dNe
  rw [eq_of (toPw_tD _ f) (toPw_tD _ g) (shaped_pT hf) (shaped_pT hg) (.inl rfl), eqv_pT]
  rfl
theorem toP_lst {n : Nat} {fs : List (List Str)} (e : S[n]? = some (.lst (fs.map tD))) : toP S (.ref n) = some (.list (fs.map pT)) := by
  unfold toP
  simp only [toPw]
  unfold LEV gP
  simp only [e, toPws_tDs, Option.map_some]
theorem eq_lsts {n m : Nat} {fs gs : List (List Str)} (e1 : S[n]? = some (.lst (fs.map tD))) (e2 : S[m]? = some (.lst (gs.map tD))) (hf : ∀ f ∈ fs, ∀ z ∈ f, PyData.strOk z = true) (hg : ∀ f ∈ gs, ∀ z ∈ f, PyData.strOk z = true) :
    dEq (.ref n) (.ref m) S = some (.bl (decide (fs = gs)), S) := by
  unfold dEq
  rw [eq_of (toP_lst e1) (toP_lst e2) (shaped_pTs hf).1 (shaped_pTs hg).1 (.inl rfl)]
  simp only [PyData.eqv, eqvAll_pT, Option.map_some]
/-- x in (y, ..) -/
theorem in_tDs {fs : List (List Str)} (hf : ∀ z ∈ f, PyData.strOk z = true) (hs : ∀ g ∈ fs, ∀ z ∈ g, PyData.strOk z = true) : inD (tD f) (.tup (fs.map tD)) S = some (fs.any fun g => decide (g = f)) := by
  have e2 : toP S (.tup (fs.map tD)) = some (.tuple (fs.map pT)) := by
    unfold toP
    simp only [toPw, toPws_tDs, Option.map_some]
  have e1 : toP S (tD f) = some (pT f) := toPw_tD _ f
  have hh : (SeqAt.shaped (pT f) && SeqAt.shaped (.tuple (fs.map pT))) = true := by rw [shaped_pT hf, (shaped_pTs hs).2]; rfl
  have : inD (tD f) (.tup (fs.map tD)) S = some ((fs.map pT).any fun z => PyData.eqv z (pT f)) := by
    unfold inD
    split
    · rename_i h1 h2; cases h1
    · simp only [e1, e2, if_pos hh]
  rw [this, List.any_map]
  congr 2
  funext g
  exact eqv_pT g f
theorem cut_take {xs : List D} (m : Nat) : cutD xs none (some (m : Int)) = xs.take m := by
  unfold cutD
  rw [HT.sIx_nat]
  show (xs.drop 0).take (min m xs.length - 0) = _
  rw [List.drop_zero, Nat.sub_zero]
  rcases Nat.le_total m xs.length with h | h
  · rw [Nat.min_eq_left h]
  · rw [Nat.min_eq_right h, List.take_length, List.take_of_length_le h]
theorem cut_drop {xs : List D} (m : Nat) : cutD xs (some (m : Int)) none = xs.drop m := by
  unfold cutD
  rw [HT.sIx_nat]
  show (xs.drop (min m xs.length)).take (xs.length - min m xs.length) = _
  rcases Nat.le_total m xs.length with h | h
  · rw [Nat.min_eq_left h, List.take_of_length_le (by rw [List.length_drop]; omega)]
  · rw [Nat.min_eq_right h, List.drop_length, List.drop_of_length_le h]; simp
theorem sl_take (f : List Str) (m : Nat) : dSl (tD f) none (some (m : Int)) S = some (tD (f.take m), S) := by
  show some (D.tup (cutD (f.map .str) none (some (m : Int))), S) = _
  rw [cut_take, ← List.map_take]; rfl
theorem sl_drop (f : List Str) (m : Nat) : dSl (tD f) (some (m : Int)) none S = some (tD (f.drop m), S) := by
  show some (D.tup (cutD (f.map .str) (some (m : Int)) none), S) = _
  rw [cut_drop, ← List.map_drop]; rfl
theorem sl_inits (i : List Str) (l : Str) : dSl (tD (i ++ [l])) none (some (-1)) S = some (tD i, S) := by
  unfold tD
  rw [List.map_append]
  exact sl_init _ _
theorem ix_lasts (i : List Str) (l : Str) : dIx (tD (i ++ [l])) (.int (-1)) S = some (.str l, S) := by
  unfold tD
  rw [List.map_append]
  exact ix_last _ _
theorem add_tD (hl : f.length + g.length ≤ 1000000) : dAdd (tD f) (tD g) S = some (tD (f ++ g), S) := by
  unfold tD
  rw [add_tup (by simpa using hl), List.map_append]
theorem len_tD : bLen [tD f] S = some (.int f.length, S) := by
  show some (D.int ((f.map D.str).length : Nat), S) = _
  rw [List.length_map]
theorem ne_unitD : dNe (tD f) (.tup []) S = some (.bl (!f.isEmpty), S) := by
  unfold tD
  rw [ne_unit]
  cases f <;> rfl
theorem eq_unitD : dEq (tD f) (.tup []) S = some (.bl f.isEmpty, S) := by
  unfold tD
  rw [eq_unit]
  cases f <;> rfl
theorem list_tD : bList [tD f] S = some (.ref S.length, S ++ [.lst (f.map .str)]) := rfl
end
end DL

set_option maxHeartbeats 0
/-! the defs of the law as functions; their derivations (printed by gen.py from the text) -/
namespace K3
open PySem L2 DL
def top (i : Nat) : Stmt := PySem.Challenge.pw_sparewright_k03_kinds_put_in_and_fitted.main.body.getD i (.Pass ⟨0, 0, 0, 0⟩)
abbrev st_has_hole : Stmt := top 2
abbrev N_has_hole : List Str := ["pattern"]
abbrev P_has_hole : List Str := ["pattern"]
theorem sc_has_hole : FnScope N_has_hole P_has_hole (defScope st_has_hole) := ⟨rfl, rfl, rfl, by decide +kernel, rfl, by decide +kernel, by decide +kernel⟩
def m_has_hole : SM := sRet (mAnd (mCB bIsi (aCons (mBin dIx (mVar 0) (mUn dNeg (mC (.int 1)))) (aCons (mC (.raw (.ty "str"))) (aNil)))) (mBin dEq (mBin dIx (mVar 0) (mUn dNeg (mC (.int 1)))) (mC (.str "T"))))
def f_has_hole : FM := runB 1 m_has_hole
abbrev st__law_hand : Stmt := top 7
abbrev N__law_hand : List Str := ["script", "cell", "cells", "mixed"]
abbrev P__law_hand : List Str := ["script"]
theorem sc__law_hand : FnScope N__law_hand P__law_hand (defScope st__law_hand) := ⟨rfl, rfl, rfl, by decide +kernel, rfl, by decide +kernel, by decide +kernel⟩
def m__law_hand : SM := sSeq (sPar 2 3 (aCons (mCB bList (aCons (mSl (mVar 0) (oNone) (oSome (mC (.int 63)))) (aNil))) (aCons (mC (.int 98503)) (aNil))))
    (sSeq (sFor (iAny (mVar 2)) (.nm 1) (sSet 3 (mBin dMod (mBin dAdd (mBin dAdd (mBin dMul (mVar 3) (mC (.int 40014))) (mBin dMod (mVar 1) (mC (.int 2147483549)))) (mC (.int 23))) (mC (.int 2147483563)))))
    (sRet (mDct ["cells", "mixed", "draws"] (aCons (mRev (mVar 2)) (aCons (mVar 3) (aCons (mC (.int 0)) (aNil)))))))
def f__law_hand : FM := runB 4 m__law_hand
abbrev st__law_draw : Stmt := top 8
abbrev N__law_draw : List Str := ["hand", "many", "number", "cell"]
abbrev P__law_draw : List Str := ["hand", "many"]
theorem sc__law_draw : FnScope N__law_draw P__law_draw (defScope st__law_draw) := ⟨rfl, rfl, rfl, by decide +kernel, rfl, by decide +kernel, by decide +kernel⟩
def m__law_draw : SM := sSeq (sSub (mVar 0) (mC (.str "draws")) (mBin dAdd (mBin dIx (mVar 0) (mC (.str "draws"))) (mC (.int 1))))
    (sSeq (sSet 2 (mBin dAdd (mBin dIx (mVar 0) (mC (.str "mixed"))) (mBin dMul (mC (.int 70009)) (mBin dIx (mVar 0) (mC (.str "draws"))))))
    (sSeq (sIf (mTest (mBin dNe (mBin dIx (mVar 0) (mC (.str "cells"))) (mLst (aNil)))) (sSeq (sSet 3 (mMt .lst dPop (mBin dIx (mVar 0) (mC (.str "cells"))) aNil))
    (sSeq (sIf (mTest (mBin dGe (mVar 3) (mBin dPow (mC (.int 10)) (mC (.int 18))))) (sSeq (sDrop (mMt .lst dAppend (mBin dIx (mVar 0) (mC (.str "cells"))) (aCons (mBin dFdiv (mVar 3) (mVar 1)) (aNil))))
    (sRet (mBin dMod (mVar 3) (mVar 1)))) (sNext))
    (sSet 2 (mBin dAdd (mVar 2) (mVar 3))))) (sNext))
    (sSeq (sSet 2 (mBin dMod (mBin dMul (mBin dMod (mVar 2) (mC (.int 2147483549))) (mC (.int 40692))) (mC (.int 2147483399))))
    (sSeq (sSet 2 (mBin dMod (mBin dAdd (mBin dAdd (mBin dMul (mVar 2) (mVar 2)) (mBin dMul (mC (.int 60029)) (mBin dIx (mVar 0) (mC (.str "draws"))))) (mC (.int 5))) (mC (.int 2147483563))))
    (sRet (mBin dMod (mBin dFdiv (mBin dMod (mBin dMul (mVar 2) (mC (.int 39373))) (mC (.int 2147483549))) (mC (.int 32))) (mVar 1)))))))
def f__law_draw : FM := runB 4 m__law_draw
abbrev st__law_put : Stmt := top 12
abbrev N__law_put : List Str := ["form", "word", "found", "name"]
abbrev P__law_put : List Str := ["form", "word"]
theorem sc__law_put : FnScope N__law_put P__law_put (defScope st__law_put) := ⟨rfl, rfl, rfl, by decide +kernel, rfl, by decide +kernel, by decide +kernel⟩
def m__law_put : SM := sSeq (sSet 2 (mLst (aNil)))
    (sSeq (sFor (iAny (mVar 0)) (.nm 3) (sDrop (mMt .lst dExtend (mVar 2) (aCons (mIf (mTest (mBin dEq (mVar 3) (mC (.str "T")))) (mCB bList (aCons (mVar 1) (aNil))) (mLst (aCons (mVar 3) (aNil)))) (aNil)))))
    (sRet (mCB bTuple (aCons (mVar 2) (aNil)))))
def f__law_put : FM := runB 4 m__law_put
abbrev st_filled : Stmt := top 3
abbrev N_filled : List Str := ["pattern", "kind"]
abbrev P_filled : List Str := ["pattern", "kind"]
theorem sc_filled : FnScope N_filled P_filled (defScope st_filled) := ⟨rfl, rfl, rfl, by decide +kernel, rfl, by decide +kernel, by decide +kernel⟩
def m_filled : SM := sRet (mIf (mTru (mCall 1 f_has_hole (aCons (mVar 0) (aNil)))) (mBin dAdd (mSl (mVar 0) (oNone) (oSome (mUn dNeg (mC (.int 1))))) (mVar 1)) (mVar 0))
def f_filled : FM := runB 2 m_filled
abbrev st_tail_of : Stmt := top 4
abbrev N_tail_of : List Str := ["pattern", "kind", "many"]
abbrev P_tail_of : List Str := ["pattern", "kind"]
theorem sc_tail_of : FnScope N_tail_of P_tail_of (defScope st_tail_of) := ⟨rfl, rfl, rfl, by decide +kernel, rfl, by decide +kernel, by decide +kernel⟩
def m_tail_of : SM := sSeq (sIf (tNot' (mTru (mCall 1 f_has_hole (aCons (mVar 0) (aNil))))) (sRet (mIf (mTest (mBin dEq (mVar 0) (mVar 1))) (mTup (aNil)) (mC .non))) (sNext))
    (sSeq (sSet 2 (mBin dSub (mCB bLen (aCons (mVar 0) (aNil))) (mC (.int 1))))
    (sRet (mIf (tAnd' (mTest (mBin dGt (mCB bLen (aCons (mVar 1) (aNil))) (mVar 2))) (mTest (mBin dEq (mSl (mVar 1) (oNone) (oSome (mVar 2))) (mSl (mVar 0) (oNone) (oSome (mVar 2)))))) (mSl (mVar 1) (oSome (mVar 2)) (oNone)) (mC .non))))
def f_tail_of : FM := runB 3 m_tail_of
abbrev st__law_pick : Stmt := top 9
abbrev N__law_pick : List Str := ["hand", "some"]
abbrev P__law_pick : List Str := ["hand", "some"]
theorem sc__law_pick : FnScope N__law_pick P__law_pick (defScope st__law_pick) := ⟨rfl, rfl, rfl, by decide +kernel, rfl, by decide +kernel, by decide +kernel⟩
def m__law_pick : SM := sRet (mBin dIx (mVar 1) (mCall 2 f__law_draw (aCons (mVar 0) (aCons (mCB bLen (aCons (mVar 1) (aNil))) (aNil)))))
def f__law_pick : FM := runB 2 m__law_pick
abbrev st__law_due : Stmt := top 14
abbrev N__law_due : List Str := ["forms", "words", "word", "at", "form"]
abbrev P__law_due : List Str := ["forms", "words"]
theorem sc__law_due : FnScope N__law_due P__law_due (defScope st__law_due) := ⟨rfl, rfl, rfl, by decide +kernel, rfl, by decide +kernel, by decide +kernel⟩
def m__law_due : SM := sSeq (sIf (mTest (mBin dEq (mLc (iAny (mVar 0)) (.nm 4) (mTest (mBin dEq (mBin dIx (mVar 4) (mUn dNeg (mC (.int 1)))) (mC (.str "T")))) (mVar 4) [4]) (mLst (aNil)))) (sRet (mIf (mTest (mBin dEq (mCB bList (aCons (mVar 0) (aNil))) (mCB bList (aCons (mVar 1) (aNil))))) (mTup (aNil)) (mC .non))) (sNext))
    (sSeq (sFor (iAny (mVar 1)) (.nm 2) (sFor (iRg1 (aCons (mCB bLen (aCons (mVar 2) (aNil))) (aNil))) (.nm 3) (sIf (mTest (mBin dEq (mLc (iAny (mVar 0)) (.nm 4) (tTrue) (mCall 2 f__law_put (aCons (mVar 4) (aCons (mSl (mVar 2) (oSome (mVar 3)) (oNone)) (aNil)))) [4]) (mCB bList (aCons (mVar 1) (aNil))))) (sRet (mSl (mVar 2) (oSome (mVar 3)) (oNone))) (sNext))))
    (sRet (mC .non)))
def f__law_due : FM := runB 5 m__law_due
abbrev st_fitted : Stmt := top 5
abbrev N_fitted : List Str := ["patterns", "kinds", "found", "pattern", "kind", "tail"]
abbrev P_fitted : List Str := ["patterns", "kinds"]
theorem sc_fitted : FnScope N_fitted P_fitted (defScope st_fitted) := ⟨rfl, rfl, rfl, by decide +kernel, rfl, by decide +kernel, by decide +kernel⟩
def m_fitted : SM := sSeq (sSet 2 (mTup (aNil)))
    (sSeq (sFor (iZpS (aCons (mVar 0) (aCons (mVar 1) (aNil)))) (.tp [.nm 3, .nm 4]) (sSeq (sSet 5 (mCall 2 f_tail_of (aCons (mVar 3) (aCons (mVar 4) (aNil)))))
    (sSeq (sIf (tOr' (mTest (mBin dIs (mVar 5) (mC .non))) (tAnd' (mTest (mBin dNe (mVar 2) (mTup (aNil)))) (mTest (mBin dNotIn (mVar 5) (mTup (aCons (mTup (aNil)) (aCons (mVar 2) (aNil)))))))) (sRet (mC .non)) (sNext))
    (sSet 2 (mIf (mTest (mBin dEq (mVar 2) (mTup (aNil)))) (mVar 5) (mVar 2))))))
    (sRet (mVar 2)))
def f_fitted : FM := runB 6 m_fitted
abbrev st__law_word : Stmt := top 10
abbrev N__law_word : List Str := ["hand", "names", "most", "found", "constructors", "grounds", "k"]
abbrev P__law_word : List Str := ["hand", "names", "most"]
theorem sc__law_word : FnScope N__law_word P__law_word (defScope st__law_word) := ⟨rfl, rfl, rfl, by decide +kernel, rfl, by decide +kernel, by decide +kernel⟩
def m__law_word : SM := sSeq (sAsg (.tp [.nm 4, .nm 5]) (mVar 1))
    (sSeq (sSet 3 (mLc (iRg1 (aCons (mCall 2 f__law_draw (aCons (mVar 0) (aCons (mBin dAdd (mVar 2) (mC (.int 1))) (aNil)))) (aNil))) (.nm 6) (tTrue) (mCall 2 f__law_pick (aCons (mVar 0) (aCons (mVar 4) (aNil)))) [6]))
    (sRet (mCB bTuple (aCons (mBin dAdd (mVar 3) (mLst (aCons (mCall 2 f__law_pick (aCons (mVar 0) (aCons (mVar 5) (aNil)))) (aNil)))) (aNil)))))
def f__law_word : FM := runB 7 m__law_word
abbrev st__law_filled_right : Stmt := top 16
abbrev N__law_filled_right : List Str := ["forms", "word", "form", "due"]
abbrev P__law_filled_right : List Str := ["forms", "word"]
theorem sc__law_filled_right : FnScope N__law_filled_right P__law_filled_right (defScope st__law_filled_right) := ⟨rfl, rfl, rfl, by decide +kernel, rfl, by decide +kernel, by decide +kernel⟩
def m__law_filled_right : SM := sSeq (sFor (iAny (mVar 0)) (.nm 2) (sSeq (sSet 3 (mCall 2 f__law_put (aCons (mVar 2) (aCons (mVar 1) (aNil)))))
    (sIf (mTest (mBin dNe (mCB bRepr (aCons (mLst (aCons (mCall 2 f_filled (aCons (mVar 2) (aCons (mVar 1) (aNil)))) (aCons (mCallK 2 f_filled [(true, 1), (true, 0)] aNil (aCons (mVar 1) (aCons (mVar 2) (aNil)))) (aNil)))) (aNil))) (mCB bRepr (aCons (mLst (aCons (mVar 3) (aCons (mVar 3) (aNil)))) (aNil))))) (sRet (mC (.bl false))) (sNext))))
    (sRet (mC (.bl true)))
def f__law_filled_right : FM := runB 4 m__law_filled_right
abbrev st__law_form : Stmt := top 11
abbrev N__law_form : List Str := ["hand", "names", "it"]
abbrev P__law_form : List Str := ["hand", "names"]
theorem sc__law_form : FnScope N__law_form P__law_form (defScope st__law_form) := ⟨rfl, rfl, rfl, by decide +kernel, rfl, by decide +kernel, by decide +kernel⟩
def m__law_form : SM := sSeq (sSet 2 (mCall 3 f__law_word (aCons (mVar 0) (aCons (mVar 1) (aCons (mC (.int 5)) (aNil))))))
    (sRet (mIf (mTest (mBin dGt (mCall 2 f__law_draw (aCons (mVar 0) (aCons (mC (.int 5)) (aNil)))) (mC (.int 1)))) (mBin dAdd (mSl (mVar 2) (oNone) (oSome (mUn dNeg (mC (.int 1))))) (mTup (aCons (mC (.str "T")) (aNil)))) (mVar 2)))
def f__law_form : FM := runB 3 m__law_form
abbrev st__law_bent : Stmt := top 13
abbrev N__law_bent : List Str := ["hand", "names", "word", "at", "way"]
abbrev P__law_bent : List Str := ["hand", "names", "word"]
theorem sc__law_bent : FnScope N__law_bent P__law_bent (defScope st__law_bent) := ⟨rfl, rfl, rfl, by decide +kernel, rfl, by decide +kernel, by decide +kernel⟩
def m__law_bent : SM := sSeq (sPar 3 4 (aCons (mCall 2 f__law_draw (aCons (mVar 0) (aCons (mCB bLen (aCons (mVar 2) (aNil))) (aNil)))) (aCons (mCall 2 f__law_draw (aCons (mVar 0) (aCons (mC (.int 5)) (aNil)))) (aNil))))
    (sSeq (sIf (mTest (mBin dEq (mVar 4) (mC (.int 0)))) (sRet (mCall 3 f__law_word (aCons (mVar 0) (aCons (mVar 1) (aCons (mC (.int 5)) (aNil)))))) (sNext))
    (sSeq (sIf (mTest (mBin dEq (mVar 4) (mC (.int 1)))) (sRet (mBin dAdd (mBin dAdd (mSl (mVar 2) (oNone) (oSome (mVar 3))) (mTup (aCons (mCall 2 f__law_pick (aCons (mVar 0) (aCons (mBin dIx (mVar 1) (mC (.int 0))) (aNil)))) (aNil)))) (mSl (mVar 2) (oSome (mVar 3)) (oNone)))) (sNext))
    (sSeq (sIf (tAnd' (mTest (mBin dEq (mVar 4) (mC (.int 2)))) (mTest (mBin dGt (mCB bLen (aCons (mVar 2) (aNil))) (mC (.int 1))))) (sRet (mSl (mVar 2) (oSome (mC (.int 1))) (oNone))) (sNext))
    (sSeq (sIf (mTest (mBin dEq (mVar 4) (mC (.int 3)))) (sRet (mBin dAdd (mSl (mVar 2) (oNone) (oSome (mUn dNeg (mC (.int 1))))) (mTup (aCons (mCall 2 f__law_pick (aCons (mVar 0) (aCons (mBin dIx (mVar 1) (mC (.int 1))) (aNil)))) (aNil))))) (sNext))
    (sRet (mBin dAdd (mBin dAdd (mSl (mVar 2) (oNone) (oSome (mVar 3))) (mTup (aCons (mCall 2 f__law_pick (aCons (mVar 0) (aCons (mBin dAdd (mBin dIx (mVar 1) (mC (.int 0))) (mBin dIx (mVar 1) (mC (.int 1)))) (aNil)))) (aNil)))) (mSl (mVar 2) (oSome (mBin dAdd (mVar 3) (mC (.int 1)))) (oNone))))))))
def f__law_bent : FM := runB 5 m__law_bent
abbrev st__law_fitted_right : Stmt := top 15
abbrev N__law_fitted_right : List Str := ["forms", "words", "heard", "before", "due"]
abbrev P__law_fitted_right : List Str := ["forms", "words"]
theorem sc__law_fitted_right : FnScope N__law_fitted_right P__law_fitted_right (defScope st__law_fitted_right) := ⟨rfl, rfl, rfl, by decide +kernel, rfl, by decide +kernel, by decide +kernel⟩
def m__law_fitted_right : SM := sSeq (sPar 3 4 (aCons (mCB bRepr (aCons (mLst (aCons (mVar 0) (aCons (mVar 1) (aNil)))) (aNil))) (aCons (mCall 2 f__law_due (aCons (mVar 0) (aCons (mVar 1) (aNil)))) (aNil))))
    (sSeq (sSet 2 (mLst (aCons (mCall 2 f_fitted (aCons (mVar 0) (aCons (mVar 1) (aNil)))) (aCons (mCallK 2 f_fitted [(true, 1), (true, 0)] aNil (aCons (mVar 1) (aCons (mVar 0) (aNil)))) (aNil)))))
    (sRet (mAnd (mBin dEq (mCB bRepr (aCons (mVar 2) (aNil))) (mCB bRepr (aCons (mLst (aCons (mVar 4) (aCons (mVar 4) (aNil)))) (aNil)))) (mBin dEq (mCB bRepr (aCons (mLst (aCons (mVar 0) (aCons (mVar 1) (aNil)))) (aNil))) (mVar 3)))))
def f__law_fitted_right : FM := runB 5 m__law_fitted_right
abbrev st_law : Stmt := top 17
abbrev N_law : List Str := ["script", "hand", "some", "turn", "names", "forms", "word", "words", "change", "at", "form", "k"]
abbrev P_law : List Str := ["script"]
theorem sc_law : FnScope N_law P_law (defScope st_law) := ⟨rfl, rfl, rfl, by decide +kernel, rfl, by decide +kernel, by decide +kernel⟩
def m_law : SM := sSeq (sSet 1 (mCall 1 f__law_hand (aCons (mVar 0) (aNil))))
    (sSeq (sSet 2 (mLst (aCons (mTup (aCons (mLst (aCons (mC (.str "a")) (aCons (mC (.str "ab")) (aNil)))) (aCons (mLst (aCons (mC (.str "t")) (aCons (mC (.str "tt")) (aNil)))) (aNil)))) (aCons (mTup (aCons (mLst (aCons (mC (.str "list")) (aCons (mC (.str "opt")) (aNil)))) (aCons (mLst (aCons (mC (.str "num")) (aCons (mC (.str "truth")) (aNil)))) (aNil)))) (aCons (mTup (aCons (mLst (aCons (mC (.str "c")) (aNil))) (aCons (mLst (aCons (mC (.str "b")) (aNil))) (aNil)))) (aCons (mTup (aCons (mLst (aCons (mC (.str "x")) (aCons (mC (.str "y")) (aCons (mC (.str "z")) (aNil))))) (aCons (mLst (aCons (mC (.str "x")) (aNil))) (aNil)))) (aNil)))))))
    (sSeq (sFor (iRg1 (aCons (mC (.int 20)) (aNil))) (.nm 3) (sSeq (sSet 4 (mCall 2 f__law_pick (aCons (mVar 1) (aCons (mVar 2) (aNil)))))
    (sSeq (sSet 5 (mCB bTuple (aCons (mLc (iRg1 (aCons (mCall 2 f__law_pick (aCons (mVar 1) (aCons (mLst (aCons (mC (.int 0)) (aCons (mC (.int 1)) (aCons (mC (.int 1)) (aCons (mC (.int 2)) (aCons (mC (.int 3)) (aCons (mC (.int 4)) (aNil)))))))) (aNil)))) (aNil))) (.nm 11) (tTrue) (mCall 2 f__law_form (aCons (mVar 1) (aCons (mVar 4) (aNil)))) [11]) (aNil))))
    (sSeq (sSet 6 (mCall 3 f__law_word (aCons (mVar 1) (aCons (mVar 4) (aCons (mC (.int 11)) (aNil))))))
    (sSeq (sSet 7 (mLc (iAny (mVar 5)) (.nm 10) (tTrue) (mCall 2 f__law_put (aCons (mVar 10) (aCons (mVar 6) (aNil)))) [10]))
    (sSeq (sFor (iRg1 (aCons (mBin dMul (mCall 2 f__law_draw (aCons (mVar 1) (aCons (mC (.int 3)) (aNil)))) (mCB bInt (aCons (mBin dNe (mVar 7) (mLst (aNil))) (aNil)))) (aNil))) (.nm 8) (sSeq (sSet 9 (mCall 2 f__law_draw (aCons (mVar 1) (aCons (mCB bLen (aCons (mVar 7) (aNil))) (aNil)))))
    (sSeq (sSub (mVar 7) (mVar 9) (mCall 3 f__law_bent (aCons (mVar 1) (aCons (mVar 4) (aCons (mBin dIx (mVar 7) (mVar 9)) (aNil))))))
    (sIf (tAnd' (mTest (mBin dGt (mCB bLen (aCons (mBin dIx (mVar 5) (mVar 9)) (aNil))) (mC (.int 1)))) (mTest (mBin dEq (mCall 2 f__law_draw (aCons (mVar 1) (aCons (mC (.int 4)) (aNil)))) (mC (.int 0))))) (sSub (mVar 7) (mVar 9) (mSl (mBin dIx (mVar 5) (mVar 9)) (oNone) (oSome (mUn dNeg (mC (.int 1)))))) (sNext)))))
    (sIf (tOr' (tNot' (mTru (mCall 2 f__law_fitted_right (aCons (mVar 5) (aCons (mCB bTuple (aCons (mVar 7) (aNil))) (aNil)))))) (tNot' (mTru (mCall 2 f__law_filled_right (aCons (mVar 5) (aCons (mVar 6) (aNil))))))) (sRet (mC (.bl false))) (sNext))))))))
    (sRet (mC (.bl true)))))
def f_law : FM := runB 12 m_law
theorem b_has_hole (kV doc pm : Value) (an : Option Addr) (cdv ct : Value) (us : List Value) (hl : us.length = P_has_hole.length) : bindArgs (PySem.W.fnOf "has_hole" "has_hole" (defArgs st_has_hole) (defBody st_has_hole) (defScope st_has_hole) .none kV doc pm an cdv ct) ⟨us, []⟩ = pure (P_has_hole.zip us) := match us, hl with | [_], _ => rfl
theorem b__law_hand (kV doc pm : Value) (an : Option Addr) (cdv ct : Value) (us : List Value) (hl : us.length = P__law_hand.length) : bindArgs (PySem.W.fnOf "_law_hand" "_law_hand" (defArgs st__law_hand) (defBody st__law_hand) (defScope st__law_hand) .none kV doc pm an cdv ct) ⟨us, []⟩ = pure (P__law_hand.zip us) := match us, hl with | [_], _ => rfl
theorem b__law_draw (kV doc pm : Value) (an : Option Addr) (cdv ct : Value) (us : List Value) (hl : us.length = P__law_draw.length) : bindArgs (PySem.W.fnOf "_law_draw" "_law_draw" (defArgs st__law_draw) (defBody st__law_draw) (defScope st__law_draw) .none kV doc pm an cdv ct) ⟨us, []⟩ = pure (P__law_draw.zip us) := match us, hl with | [_, _], _ => rfl
theorem b__law_put (kV doc pm : Value) (an : Option Addr) (cdv ct : Value) (us : List Value) (hl : us.length = P__law_put.length) : bindArgs (PySem.W.fnOf "_law_put" "_law_put" (defArgs st__law_put) (defBody st__law_put) (defScope st__law_put) .none kV doc pm an cdv ct) ⟨us, []⟩ = pure (P__law_put.zip us) := match us, hl with | [_, _], _ => rfl
theorem b_filled (kV doc pm : Value) (an : Option Addr) (cdv ct : Value) (us : List Value) (hl : us.length = P_filled.length) : bindArgs (PySem.W.fnOf "filled" "filled" (defArgs st_filled) (defBody st_filled) (defScope st_filled) .none kV doc pm an cdv ct) ⟨us, []⟩ = pure (P_filled.zip us) := match us, hl with | [_, _], _ => rfl
theorem b_tail_of (kV doc pm : Value) (an : Option Addr) (cdv ct : Value) (us : List Value) (hl : us.length = P_tail_of.length) : bindArgs (PySem.W.fnOf "tail_of" "tail_of" (defArgs st_tail_of) (defBody st_tail_of) (defScope st_tail_of) .none kV doc pm an cdv ct) ⟨us, []⟩ = pure (P_tail_of.zip us) := match us, hl with | [_, _], _ => rfl
theorem b__law_pick (kV doc pm : Value) (an : Option Addr) (cdv ct : Value) (us : List Value) (hl : us.length = P__law_pick.length) : bindArgs (PySem.W.fnOf "_law_pick" "_law_pick" (defArgs st__law_pick) (defBody st__law_pick) (defScope st__law_pick) .none kV doc pm an cdv ct) ⟨us, []⟩ = pure (P__law_pick.zip us) := match us, hl with | [_, _], _ => rfl
theorem b__law_due (kV doc pm : Value) (an : Option Addr) (cdv ct : Value) (us : List Value) (hl : us.length = P__law_due.length) : bindArgs (PySem.W.fnOf "_law_due" "_law_due" (defArgs st__law_due) (defBody st__law_due) (defScope st__law_due) .none kV doc pm an cdv ct) ⟨us, []⟩ = pure (P__law_due.zip us) := match us, hl with | [_, _], _ => rfl
theorem b_fitted (kV doc pm : Value) (an : Option Addr) (cdv ct : Value) (us : List Value) (hl : us.length = P_fitted.length) : bindArgs (PySem.W.fnOf "fitted" "fitted" (defArgs st_fitted) (defBody st_fitted) (defScope st_fitted) .none kV doc pm an cdv ct) ⟨us, []⟩ = pure (P_fitted.zip us) := match us, hl with | [_, _], _ => rfl
theorem b__law_word (kV doc pm : Value) (an : Option Addr) (cdv ct : Value) (us : List Value) (hl : us.length = P__law_word.length) : bindArgs (PySem.W.fnOf "_law_word" "_law_word" (defArgs st__law_word) (defBody st__law_word) (defScope st__law_word) .none kV doc pm an cdv ct) ⟨us, []⟩ = pure (P__law_word.zip us) := match us, hl with | [_, _, _], _ => rfl
theorem b__law_filled_right (kV doc pm : Value) (an : Option Addr) (cdv ct : Value) (us : List Value) (hl : us.length = P__law_filled_right.length) : bindArgs (PySem.W.fnOf "_law_filled_right" "_law_filled_right" (defArgs st__law_filled_right) (defBody st__law_filled_right) (defScope st__law_filled_right) .none kV doc pm an cdv ct) ⟨us, []⟩ = pure (P__law_filled_right.zip us) := match us, hl with | [_, _], _ => rfl
theorem b__law_form (kV doc pm : Value) (an : Option Addr) (cdv ct : Value) (us : List Value) (hl : us.length = P__law_form.length) : bindArgs (PySem.W.fnOf "_law_form" "_law_form" (defArgs st__law_form) (defBody st__law_form) (defScope st__law_form) .none kV doc pm an cdv ct) ⟨us, []⟩ = pure (P__law_form.zip us) := match us, hl with | [_, _], _ => rfl
theorem b__law_bent (kV doc pm : Value) (an : Option Addr) (cdv ct : Value) (us : List Value) (hl : us.length = P__law_bent.length) : bindArgs (PySem.W.fnOf "_law_bent" "_law_bent" (defArgs st__law_bent) (defBody st__law_bent) (defScope st__law_bent) .none kV doc pm an cdv ct) ⟨us, []⟩ = pure (P__law_bent.zip us) := match us, hl with | [_, _, _], _ => rfl
theorem b__law_fitted_right (kV doc pm : Value) (an : Option Addr) (cdv ct : Value) (us : List Value) (hl : us.length = P__law_fitted_right.length) : bindArgs (PySem.W.fnOf "_law_fitted_right" "_law_fitted_right" (defArgs st__law_fitted_right) (defBody st__law_fitted_right) (defScope st__law_fitted_right) .none kV doc pm an cdv ct) ⟨us, []⟩ = pure (P__law_fitted_right.zip us) := match us, hl with | [_, _], _ => rfl
theorem b_law (kV doc pm : Value) (an : Option Addr) (cdv ct : Value) (us : List Value) (hl : us.length = P_law.length) : bindArgs (PySem.W.fnOf "law" "law" (defArgs st_law) (defBody st_law) (defScope st_law) .none kV doc pm an cdv ct) ⟨us, []⟩ = pure (P_law.zip us) := match us, hl with | [_], _ => rfl
theorem bk0_fitted (kV doc pm : Value) (an : Option Addr) (cdv ct : Value) (ws : List Value) (_ : (pick [(true, 1), (true, 0)] [] ws).length = P_fitted.length) (hl : ws.length = (["kinds", "patterns"] : List Str).length) : bindArgs (PySem.W.fnOf "fitted" "fitted" (defArgs st_fitted) (defBody st_fitted) (defScope st_fitted) .none kV doc pm an cdv ct) ⟨[], (["kinds", "patterns"] : List Str).zip ws⟩ = pure (P_fitted.zip (pick [(true, 1), (true, 0)] [] ws)) := match ws, hl with | [_, _], _ => rfl
theorem bk1_filled (kV doc pm : Value) (an : Option Addr) (cdv ct : Value) (ws : List Value) (_ : (pick [(true, 1), (true, 0)] [] ws).length = P_filled.length) (hl : ws.length = (["kind", "pattern"] : List Str).length) : bindArgs (PySem.W.fnOf "filled" "filled" (defArgs st_filled) (defBody st_filled) (defScope st_filled) .none kV doc pm an cdv ct) ⟨[], (["kind", "pattern"] : List Str).zip ws⟩ = pure (P_filled.zip (pick [(true, 1), (true, 0)] [] ws)) := match ws, hl with | [_, _], _ => rfl
/-- what the top has written -/
structure Tops (K : PySem.W.Frag) (mg : Str → Option Value) : Prop where
  sk : SysK K
  b_int : mg "int" = none
  b_isinstance : mg "isinstance" = none
  b_len : mg "len" = none
  b_list : mg "list" = none
  b_range : mg "range" = none
  b_repr : mg "repr" = none
  b_str : mg "str" = none
  b_tuple : mg "tuple" = none
  b_zip : mg "zip" = none
  g_HOLE : ∃ t, mg "HOLE" = some (.str "T" t)
  d_has_hole : ∃ f fd, mg "has_hole" = some (.ref f) ∧ Fun K "has_hole" "has_hole" st_has_hole f fd
  d__law_hand : ∃ f fd, mg "_law_hand" = some (.ref f) ∧ Fun K "_law_hand" "_law_hand" st__law_hand f fd
  d__law_draw : ∃ f fd, mg "_law_draw" = some (.ref f) ∧ Fun K "_law_draw" "_law_draw" st__law_draw f fd
  d__law_put : ∃ f fd, mg "_law_put" = some (.ref f) ∧ Fun K "_law_put" "_law_put" st__law_put f fd
  d_filled : ∃ f fd, mg "filled" = some (.ref f) ∧ Fun K "filled" "filled" st_filled f fd
  d_tail_of : ∃ f fd, mg "tail_of" = some (.ref f) ∧ Fun K "tail_of" "tail_of" st_tail_of f fd
  d__law_pick : ∃ f fd, mg "_law_pick" = some (.ref f) ∧ Fun K "_law_pick" "_law_pick" st__law_pick f fd
  d__law_due : ∃ f fd, mg "_law_due" = some (.ref f) ∧ Fun K "_law_due" "_law_due" st__law_due f fd
  d_fitted : ∃ f fd, mg "fitted" = some (.ref f) ∧ Fun K "fitted" "fitted" st_fitted f fd
  d__law_word : ∃ f fd, mg "_law_word" = some (.ref f) ∧ Fun K "_law_word" "_law_word" st__law_word f fd
  d__law_filled_right : ∃ f fd, mg "_law_filled_right" = some (.ref f) ∧ Fun K "_law_filled_right" "_law_filled_right" st__law_filled_right f fd
  d__law_form : ∃ f fd, mg "_law_form" = some (.ref f) ∧ Fun K "_law_form" "_law_form" st__law_form f fd
  d__law_bent : ∃ f fd, mg "_law_bent" = some (.ref f) ∧ Fun K "_law_bent" "_law_bent" st__law_bent f fd
  d__law_fitted_right : ∃ f fd, mg "_law_fitted_right" = some (.ref f) ∧ Fun K "_law_fitted_right" "_law_fitted_right" st__law_fitted_right f fd
  d_law : ∃ f fd, mg "law" = some (.ref f) ∧ Fun K "law" "law" st_law f fd
section
variable {P : Program} {w : World} {K : PySem.W.Frag} {mg : Str → Option Value} {base : Heap} {k : Nat}
theorem c_has_hole (T : Tops K mg) : Cal P w K mg base (k + 1) "has_hole" st_has_hole P_has_hole f_has_hole := by
  obtain ⟨f, fd, hm, Fd⟩ := T.d_has_hole
  refine ⟨f, fd, fn_ok Fd sc_has_hole fun cdv A around s H E gr => ?_, hm, Fd⟩
  have hN : N_has_hole.Nodup := sc_has_hole.nd
  have tk : Takes (cxOf (L2.CX P w) P w K mg base N_has_hole "has_hole" (defScope st_has_hole) f cdv A around s H E) (WD E) := takes_of rfl rfl rfl rfl
  unfold m_has_hole
  exact sss_one (ss_ret (se_and (se_callB c_isi T.b_isinstance (by decide +kernel) (sa_cons (se_ix gr.u1 (se_var 0) (se_un u_neg (se_int)) (fun _ _ => rfl)) (sa_cons (se_ty T.b_str (by decide +kernel)) (sa_nil)))) (se_one (se_cmp (o_eq gr.u64 T.sk) (se_ix gr.u1 (se_var 0) (se_un u_neg (se_int)) (fun _ _ => rfl)) (se_gstr rfl T.g_HOLE) (nobehind _ (by decide) (by decide))))))
theorem c__law_hand (T : Tops K mg) : Cal P w K mg base (k + 1) "_law_hand" st__law_hand P__law_hand f__law_hand := by
  obtain ⟨f, fd, hm, Fd⟩ := T.d__law_hand
  refine ⟨f, fd, fn_ok Fd sc__law_hand fun cdv A around s H E gr => ?_, hm, Fd⟩
  have hN : N__law_hand.Nodup := sc__law_hand.nd
  have tk : Takes (cxOf (L2.CX P w) P w K mg base N__law_hand "_law_hand" (defScope st__law_hand) f cdv A around s H E) (WD E) := takes_of rfl rfl rfl rfl
  unfold m__law_hand
  exact sss_cons (ss_par 2 3 rfl hN (sa_cons (se_callTy c_list T.b_list (by decide +kernel) (sa_cons (se_slice (se_var 0) (so_none) (so_some (se_int))) (sa_nil))) (sa_cons (se_int) (sa_nil))))
    (sss_cons (ss_for (passes_of rfl) rfl (si_any (se_var 2)) (sg_name 1 hN) (sss_one (ss_set 3 hN (se_bin o_mod (se_bin o_add (se_bin o_add (se_bin o_mul (se_var 3) (se_int)) (se_bin o_mod (se_var 1) (se_int))) (se_int)) (se_int)))))
    (sss_one (ss_ret (se_dct (.cons (se_rev (se_var 2)) (.cons (se_var 3) (.cons (se_int) (.nil)))) (by simp) (by decide)))))
theorem c__law_draw (T : Tops K mg) : Cal P w K mg base (k + 1) "_law_draw" st__law_draw P__law_draw f__law_draw := by
  obtain ⟨f, fd, hm, Fd⟩ := T.d__law_draw
  refine ⟨f, fd, fn_ok Fd sc__law_draw fun cdv A around s H E gr => ?_, hm, Fd⟩
  have hN : N__law_draw.Nodup := sc__law_draw.nd
  have tk : Takes (cxOf (L2.CX P w) P w K mg base N__law_draw "_law_draw" (defScope st__law_draw) f cdv A around s H E) (WD E) := takes_of rfl rfl rfl rfl
  unfold m__law_draw
  exact sss_cons (ss_sub gr.u1 (se_var 0) (se_str) (se_bin o_add (se_ix gr.u1 (se_var 0) (se_str) (fun _ _ => rfl)) (se_int)))
    (sss_cons (ss_set 2 hN (se_bin o_add (se_ix gr.u1 (se_var 0) (se_str) (fun _ _ => rfl)) (se_bin o_mul (se_int) (se_ix gr.u1 (se_var 0) (se_str) (fun _ _ => rfl)))))
    (sss_cons (ss_if (st_cmp (o_ne gr.u64 T.sk) (se_ix gr.u1 (se_var 0) (se_str) (fun _ _ => rfl)) (se_lst (sa_nil)) (nobehind _ (by decide) (by decide))) (sss_cons (ss_set 3 hN (se_mt0 (c := .lst) F.plainAttrs_list F.slot_list_pop F.type_list_pop t_pop (se_ix gr.u1 (se_var 0) (se_str) (fun _ _ => rfl))))
    (sss_cons (ss_if (st_cmp o_ge (se_var 3) (se_bin o_pow (se_int) (se_int)) (nobehind _ (by decide) (by decide))) (sss_cons (ss_expr (se_mt (c := .lst) F.plainAttrs_list F.slot_list_append F.type_list_append t_append (se_ix gr.u1 (se_var 0) (se_str) (fun _ _ => rfl)) (sa_cons (se_bin o_fdiv (se_var 3) (se_var 1)) (sa_nil))))
    (sss_one (ss_ret (se_bin o_mod (se_var 3) (se_var 1))))) (sss_nil))
    (sss_one (ss_set 2 hN (se_bin o_add (se_var 2) (se_var 3)))))) (sss_nil))
    (sss_cons (ss_set 2 hN (se_bin o_mod (se_bin o_mul (se_bin o_mod (se_var 2) (se_int)) (se_int)) (se_int)))
    (sss_cons (ss_set 2 hN (se_bin o_mod (se_bin o_add (se_bin o_add (se_bin o_mul (se_var 2) (se_var 2)) (se_bin o_mul (se_int) (se_ix gr.u1 (se_var 0) (se_str) (fun _ _ => rfl)))) (se_int)) (se_int)))
    (sss_one (ss_ret (se_bin o_mod (se_bin o_fdiv (se_bin o_mod (se_bin o_mul (se_var 2) (se_int)) (se_int)) (se_int)) (se_var 1))))))))
theorem c__law_put (T : Tops K mg) : Cal P w K mg base (k + 1) "_law_put" st__law_put P__law_put f__law_put := by
  obtain ⟨f, fd, hm, Fd⟩ := T.d__law_put
  refine ⟨f, fd, fn_ok Fd sc__law_put fun cdv A around s H E gr => ?_, hm, Fd⟩
  have hN : N__law_put.Nodup := sc__law_put.nd
  have tk : Takes (cxOf (L2.CX P w) P w K mg base N__law_put "_law_put" (defScope st__law_put) f cdv A around s H E) (WD E) := takes_of rfl rfl rfl rfl
  unfold m__law_put
  exact sss_cons (ss_set 2 hN (se_lst (sa_nil)))
    (sss_cons (ss_for (passes_of rfl) rfl (si_any (se_var 0)) (sg_name 3 hN) (sss_one (ss_expr (se_mt (c := .lst) F.plainAttrs_list F.slot_list_extend F.type_list_extend t_extend (se_var 2) (sa_cons (se_if (st_cmp (o_eq gr.u64 T.sk) (se_var 3) (se_str) (nobehind _ (by decide) (by decide))) (se_callTy c_list T.b_list (by decide +kernel) (sa_cons (se_var 1) (sa_nil))) (se_lst (sa_cons (se_var 3) (sa_nil)))) (sa_nil))))))
    (sss_one (ss_ret (se_callTy c_tuple T.b_tuple (by decide +kernel) (sa_cons (se_var 2) (sa_nil))))))
theorem c_filled (T : Tops K mg) (C_has_hole : Cal P w K mg base k "has_hole" st_has_hole P_has_hole f_has_hole) : Cal P w K mg base (k + 1) "filled" st_filled P_filled f_filled := by
  obtain ⟨f, fd, hm, Fd⟩ := T.d_filled
  refine ⟨f, fd, fn_ok Fd sc_filled fun cdv A around s H E gr => ?_, hm, Fd⟩
  have hN : N_filled.Nodup := sc_filled.nd
  have tk : Takes (cxOf (L2.CX P w) P w K mg base N_filled "filled" (defScope st_filled) f cdv A around s H E) (WD E) := takes_of rfl rfl rfl rfl
  unfold m_filled
  exact sss_one (ss_ret (se_if (st_tru (se_call C_has_hole gr tk b_has_hole (sa_cons (se_var 0) (sa_nil)))) (se_bin o_add (se_slice (se_var 0) (so_none) (so_some (se_un u_neg (se_int)))) (se_var 1)) (se_var 0)))
theorem c_tail_of (T : Tops K mg) (C_has_hole : Cal P w K mg base k "has_hole" st_has_hole P_has_hole f_has_hole) : Cal P w K mg base (k + 1) "tail_of" st_tail_of P_tail_of f_tail_of := by
  obtain ⟨f, fd, hm, Fd⟩ := T.d_tail_of
  refine ⟨f, fd, fn_ok Fd sc_tail_of fun cdv A around s H E gr => ?_, hm, Fd⟩
  have hN : N_tail_of.Nodup := sc_tail_of.nd
  have tk : Takes (cxOf (L2.CX P w) P w K mg base N_tail_of "tail_of" (defScope st_tail_of) f cdv A around s H E) (WD E) := takes_of rfl rfl rfl rfl
  unfold m_tail_of
  exact sss_cons (ss_if (st_not (st_tru (se_call C_has_hole gr tk b_has_hole (sa_cons (se_var 0) (sa_nil))))) (sss_one (ss_ret (se_if (st_cmp (o_eq gr.u64 T.sk) (se_var 0) (se_var 1) (nobehind _ (by decide) (by decide))) (se_tup (sa_nil)) (se_non)))) (sss_nil))
    (sss_cons (ss_set 2 hN (se_bin o_sub (se_callB c_len T.b_len (by decide +kernel) (sa_cons (se_var 0) (sa_nil))) (se_int)))
    (sss_one (ss_ret (se_if (PW.pt (sw_and (st_cmp o_gt (se_callB c_len T.b_len (by decide +kernel) (sa_cons (se_var 1) (sa_nil))) (se_var 2) (nobehind _ (by decide) (by decide))) (sw_and1 (st_cmp (o_eq gr.u64 T.sk) (se_slice (se_var 1) (so_none) (so_some (se_var 2))) (se_slice (se_var 0) (so_none) (so_some (se_var 2))) (nobehind _ (by decide) (by decide)))))) (se_slice (se_var 1) (so_some (se_var 2)) (so_none)) (se_non)))))
theorem c__law_pick (T : Tops K mg) (C__law_draw : Cal P w K mg base k "_law_draw" st__law_draw P__law_draw f__law_draw) : Cal P w K mg base (k + 1) "_law_pick" st__law_pick P__law_pick f__law_pick := by
  obtain ⟨f, fd, hm, Fd⟩ := T.d__law_pick
  refine ⟨f, fd, fn_ok Fd sc__law_pick fun cdv A around s H E gr => ?_, hm, Fd⟩
  have hN : N__law_pick.Nodup := sc__law_pick.nd
  have tk : Takes (cxOf (L2.CX P w) P w K mg base N__law_pick "_law_pick" (defScope st__law_pick) f cdv A around s H E) (WD E) := takes_of rfl rfl rfl rfl
  unfold m__law_pick
  exact sss_one (ss_ret (se_ix gr.u1 (se_var 1) (se_call C__law_draw gr tk b__law_draw (sa_cons (se_var 0) (sa_cons (se_callB c_len T.b_len (by decide +kernel) (sa_cons (se_var 1) (sa_nil))) (sa_nil)))) (fun _ _ => rfl)))
theorem c__law_due (T : Tops K mg) (C__law_put : Cal P w K mg base k "_law_put" st__law_put P__law_put f__law_put) : Cal P w K mg base (k + 1) "_law_due" st__law_due P__law_due f__law_due := by
  obtain ⟨f, fd, hm, Fd⟩ := T.d__law_due
  refine ⟨f, fd, fn_ok Fd sc__law_due fun cdv A around s H E gr => ?_, hm, Fd⟩
  have hN : N__law_due.Nodup := sc__law_due.nd
  have tk : Takes (cxOf (L2.CX P w) P w K mg base N__law_due "_law_due" (defScope st__law_due) f cdv A around s H E) (WD E) := takes_of rfl rfl rfl rfl
  unfold m__law_due
  exact sss_cons (ss_if (st_cmp (o_eq gr.u64 T.sk) (se_lc (own := [("form", 4)]) rfl hN (si_any (se_var 0)) (blkOk_by (N := N__law_due) (sc := defScope st__law_due) (by decide +kernel)) (fun _ _ _ _ _ => sg_name 4 hN) (fun _ _ _ _ _ => sts_one (st_cmp (o_eq gr.u64 T.sk) (se_ix gr.u1 (se_var 4) (se_un u_neg (se_int)) (fun _ _ => rfl)) (se_str) (nobehind _ (by decide) (by decide)))) (fun _ _ _ _ _ => se_var 4) (by decide)) (se_lst (sa_nil)) (nobehind _ (by decide) (by decide))) (sss_one (ss_ret (se_if (st_cmp (o_eq gr.u64 T.sk) (se_callTy c_list T.b_list (by decide +kernel) (sa_cons (se_var 0) (sa_nil))) (se_callTy c_list T.b_list (by decide +kernel) (sa_cons (se_var 1) (sa_nil))) (nobehind _ (by decide) (by decide))) (se_tup (sa_nil)) (se_non)))) (sss_nil))
    (sss_cons (ss_for (passes_of rfl) rfl (si_any (se_var 1)) (sg_name 2 hN) (sss_one (ss_for (passes_of rfl) rfl (si_range1 rfl T.b_range (sa_cons (se_callB c_len T.b_len (by decide +kernel) (sa_cons (se_var 2) (sa_nil))) (sa_nil))) (sg_name 3 hN) (sss_one (ss_if (st_cmp (o_eq gr.u64 T.sk) (se_lc (own := [("form", 4)]) rfl hN (si_any (se_var 0)) (blkOk_by (N := N__law_due) (sc := defScope st__law_due) (by decide +kernel)) (fun _ _ _ _ _ => sg_name 4 hN) (fun _ _ _ _ _ => sts_nil) (fun _ _ _ _ _ => se_call C__law_put gr takes0 b__law_put (sa_cons (se_var 4) (sa_cons (se_slice (se_var 2) (so_some (se_var 3)) (so_none)) (sa_nil)))) (by decide)) (se_callTy c_list T.b_list (by decide +kernel) (sa_cons (se_var 1) (sa_nil))) (nobehind _ (by decide) (by decide))) (sss_one (ss_ret (se_slice (se_var 2) (so_some (se_var 3)) (so_none)))) (sss_nil))))))
    (sss_one (ss_ret (se_non))))
theorem c_fitted (T : Tops K mg) (C_tail_of : Cal P w K mg base k "tail_of" st_tail_of P_tail_of f_tail_of) : Cal P w K mg base (k + 1) "fitted" st_fitted P_fitted f_fitted := by
  obtain ⟨f, fd, hm, Fd⟩ := T.d_fitted
  refine ⟨f, fd, fn_ok Fd sc_fitted fun cdv A around s H E gr => ?_, hm, Fd⟩
  have hN : N_fitted.Nodup := sc_fitted.nd
  have tk : Takes (cxOf (L2.CX P w) P w K mg base N_fitted "fitted" (defScope st_fitted) f cdv A around s H E) (WD E) := takes_of rfl rfl rfl rfl
  unfold m_fitted
  exact sss_cons (ss_set 2 hN (se_tup (sa_nil)))
    (sss_cons (ss_for (passes_of rfl) rfl (si_zipS rfl T.b_zip (sa_cons (se_var 0) (sa_cons (se_var 1) (sa_nil)))) (sg_tup rfl (sgs_cons (sg_name 3 hN) (sgs_cons (sg_name 4 hN) (sgs_nil)))) (sss_cons (ss_set 5 hN (se_call C_tail_of gr tk b_tail_of (sa_cons (se_var 3) (sa_cons (se_var 4) (sa_nil)))))
    (sss_cons (ss_if (PW.pt (sw_or (st_cmp o_is (se_var 5) (se_non) (nobehind _ (by decide) (by decide))) (sw_or1 (PW.pt (sw_and (st_cmp (o_ne gr.u64 T.sk) (se_var 2) (se_tup (sa_nil)) (nobehind _ (by decide) (by decide))) (sw_and1 (st_cmp (o_notIn gr.u65 T.sk) (se_var 5) (se_tup (sa_cons (se_tup (sa_nil)) (sa_cons (se_var 2) (sa_nil)))) rfl))))))) (sss_one (ss_ret (se_non))) (sss_nil))
    (sss_one (ss_set 2 hN (se_if (st_cmp (o_eq gr.u64 T.sk) (se_var 2) (se_tup (sa_nil)) (nobehind _ (by decide) (by decide))) (se_var 5) (se_var 2)))))))
    (sss_one (ss_ret (se_var 2))))
theorem c__law_word (T : Tops K mg) (C__law_draw : Cal P w K mg base k "_law_draw" st__law_draw P__law_draw f__law_draw) (C__law_pick : Cal P w K mg base k "_law_pick" st__law_pick P__law_pick f__law_pick) : Cal P w K mg base (k + 1) "_law_word" st__law_word P__law_word f__law_word := by
  obtain ⟨f, fd, hm, Fd⟩ := T.d__law_word
  refine ⟨f, fd, fn_ok Fd sc__law_word fun cdv A around s H E gr => ?_, hm, Fd⟩
  have hN : N__law_word.Nodup := sc__law_word.nd
  have tk : Takes (cxOf (L2.CX P w) P w K mg base N__law_word "_law_word" (defScope st__law_word) f cdv A around s H E) (WD E) := takes_of rfl rfl rfl rfl
  unfold m__law_word
  exact sss_cons (ss_asg (se_var 1) (sg_tup rfl (sgs_cons (sg_name 4 hN) (sgs_cons (sg_name 5 hN) (sgs_nil)))))
    (sss_cons (ss_setLc 3 (own := [("k", 6)]) rfl hN (si_range1 rfl T.b_range (sa_cons (se_call C__law_draw gr tk b__law_draw (sa_cons (se_var 0) (sa_cons (se_bin o_add (se_var 2) (se_int)) (sa_nil)))) (sa_nil))) (blkOk_by (N := N__law_word) (sc := defScope st__law_word) (by decide +kernel)) (fun _ _ _ _ _ => sg_name 6 hN) (fun _ _ _ _ _ => sts_nil) (fun _ _ _ _ _ => se_call C__law_pick gr takes0 b__law_pick (sa_cons (se_var 0) (sa_cons (se_var 4) (sa_nil)))) (by decide) (sw_true rfl rfl rfl (by decide +kernel)))
    (sss_one (ss_ret (se_callTy c_tuple T.b_tuple (by decide +kernel) (sa_cons (se_bin o_add (se_var 3) (se_lst (sa_cons (se_call C__law_pick gr tk b__law_pick (sa_cons (se_var 0) (sa_cons (se_var 5) (sa_nil)))) (sa_nil)))) (sa_nil))))))
theorem c__law_filled_right (T : Tops K mg) (C__law_put : Cal P w K mg base k "_law_put" st__law_put P__law_put f__law_put) (C_filled : Cal P w K mg base k "filled" st_filled P_filled f_filled) : Cal P w K mg base (k + 1) "_law_filled_right" st__law_filled_right P__law_filled_right f__law_filled_right := by
  obtain ⟨f, fd, hm, Fd⟩ := T.d__law_filled_right
  refine ⟨f, fd, fn_ok Fd sc__law_filled_right fun cdv A around s H E gr => ?_, hm, Fd⟩
  have hN : N__law_filled_right.Nodup := sc__law_filled_right.nd
  have tk : Takes (cxOf (L2.CX P w) P w K mg base N__law_filled_right "_law_filled_right" (defScope st__law_filled_right) f cdv A around s H E) (WD E) := takes_of rfl rfl rfl rfl
  unfold m__law_filled_right
  exact sss_cons (ss_for (passes_of rfl) rfl (si_any (se_var 0)) (sg_name 2 hN) (sss_cons (ss_set 3 hN (se_call C__law_put gr tk b__law_put (sa_cons (se_var 2) (sa_cons (se_var 1) (sa_nil)))))
    (sss_one (ss_if (st_cmp (o_ne gr.u64 T.sk) (se_callB (c_repr gr.free gr.u100 T.sk) T.b_repr (by decide +kernel) (sa_cons (se_lst (sa_cons (se_call C_filled gr tk b_filled (sa_cons (se_var 2) (sa_cons (se_var 1) (sa_nil)))) (sa_cons (se_callK0 (ks := ["kind", "pattern"]) C_filled gr tk [(true, 1), (true, 0)] bk1_filled (sk_cons (se_var 1) (sk_cons (se_var 2) (sk_nil))) (len_cons (len_cons len_nil))) (sa_nil)))) (sa_nil))) (se_callB (c_repr gr.free gr.u100 T.sk) T.b_repr (by decide +kernel) (sa_cons (se_lst (sa_cons (se_var 3) (sa_cons (se_var 3) (sa_nil)))) (sa_nil))) (nobehind _ (by decide) (by decide))) (sss_one (ss_ret (se_bl))) (sss_nil)))))
    (sss_one (ss_ret (se_bl)))
theorem c__law_form (T : Tops K mg) (C__law_draw : Cal P w K mg base k "_law_draw" st__law_draw P__law_draw f__law_draw) (C__law_word : Cal P w K mg base k "_law_word" st__law_word P__law_word f__law_word) : Cal P w K mg base (k + 1) "_law_form" st__law_form P__law_form f__law_form := by
  obtain ⟨f, fd, hm, Fd⟩ := T.d__law_form
  refine ⟨f, fd, fn_ok Fd sc__law_form fun cdv A around s H E gr => ?_, hm, Fd⟩
  have hN : N__law_form.Nodup := sc__law_form.nd
  have tk : Takes (cxOf (L2.CX P w) P w K mg base N__law_form "_law_form" (defScope st__law_form) f cdv A around s H E) (WD E) := takes_of rfl rfl rfl rfl
  unfold m__law_form
  exact sss_cons (ss_set 2 hN (se_call C__law_word gr tk b__law_word (sa_cons (se_var 0) (sa_cons (se_var 1) (sa_cons (se_int) (sa_nil))))))
    (sss_one (ss_ret (se_if (st_cmp o_gt (se_call C__law_draw gr tk b__law_draw (sa_cons (se_var 0) (sa_cons (se_int) (sa_nil)))) (se_int) (nobehind _ (by decide) (by decide))) (se_bin o_add (se_slice (se_var 2) (so_none) (so_some (se_un u_neg (se_int)))) (se_tup (sa_cons (se_str) (sa_nil)))) (se_var 2))))
theorem c__law_bent (T : Tops K mg) (C__law_draw : Cal P w K mg base k "_law_draw" st__law_draw P__law_draw f__law_draw) (C__law_pick : Cal P w K mg base k "_law_pick" st__law_pick P__law_pick f__law_pick) (C__law_word : Cal P w K mg base k "_law_word" st__law_word P__law_word f__law_word) : Cal P w K mg base (k + 1) "_law_bent" st__law_bent P__law_bent f__law_bent := by
  obtain ⟨f, fd, hm, Fd⟩ := T.d__law_bent
  refine ⟨f, fd, fn_ok Fd sc__law_bent fun cdv A around s H E gr => ?_, hm, Fd⟩
  have hN : N__law_bent.Nodup := sc__law_bent.nd
  have tk : Takes (cxOf (L2.CX P w) P w K mg base N__law_bent "_law_bent" (defScope st__law_bent) f cdv A around s H E) (WD E) := takes_of rfl rfl rfl rfl
  unfold m__law_bent
  exact sss_cons (ss_par 3 4 rfl hN (sa_cons (se_call C__law_draw gr tk b__law_draw (sa_cons (se_var 0) (sa_cons (se_callB c_len T.b_len (by decide +kernel) (sa_cons (se_var 2) (sa_nil))) (sa_nil)))) (sa_cons (se_call C__law_draw gr tk b__law_draw (sa_cons (se_var 0) (sa_cons (se_int) (sa_nil)))) (sa_nil))))
    (sss_cons (ss_if (st_cmp (o_eq gr.u64 T.sk) (se_var 4) (se_int) (nobehind _ (by decide) (by decide))) (sss_one (ss_ret (se_call C__law_word gr tk b__law_word (sa_cons (se_var 0) (sa_cons (se_var 1) (sa_cons (se_int) (sa_nil))))))) (sss_nil))
    (sss_cons (ss_if (st_cmp (o_eq gr.u64 T.sk) (se_var 4) (se_int) (nobehind _ (by decide) (by decide))) (sss_one (ss_ret (se_bin o_add (se_bin o_add (se_slice (se_var 2) (so_none) (so_some (se_var 3))) (se_tup (sa_cons (se_call C__law_pick gr tk b__law_pick (sa_cons (se_var 0) (sa_cons (se_ix gr.u1 (se_var 1) (se_int) (fun _ _ => rfl)) (sa_nil)))) (sa_nil)))) (se_slice (se_var 2) (so_some (se_var 3)) (so_none))))) (sss_nil))
    (sss_cons (ss_if (PW.pt (sw_and (st_cmp (o_eq gr.u64 T.sk) (se_var 4) (se_int) (nobehind _ (by decide) (by decide))) (sw_and1 (st_cmp o_gt (se_callB c_len T.b_len (by decide +kernel) (sa_cons (se_var 2) (sa_nil))) (se_int) (nobehind _ (by decide) (by decide)))))) (sss_one (ss_ret (se_slice (se_var 2) (so_some (se_int)) (so_none)))) (sss_nil))
    (sss_cons (ss_if (st_cmp (o_eq gr.u64 T.sk) (se_var 4) (se_int) (nobehind _ (by decide) (by decide))) (sss_one (ss_ret (se_bin o_add (se_slice (se_var 2) (so_none) (so_some (se_un u_neg (se_int)))) (se_tup (sa_cons (se_call C__law_pick gr tk b__law_pick (sa_cons (se_var 0) (sa_cons (se_ix gr.u1 (se_var 1) (se_int) (fun _ _ => rfl)) (sa_nil)))) (sa_nil)))))) (sss_nil))
    (sss_one (ss_ret (se_bin o_add (se_bin o_add (se_slice (se_var 2) (so_none) (so_some (se_var 3))) (se_tup (sa_cons (se_call C__law_pick gr tk b__law_pick (sa_cons (se_var 0) (sa_cons (se_bin o_add (se_ix gr.u1 (se_var 1) (se_int) (fun _ _ => rfl)) (se_ix gr.u1 (se_var 1) (se_int) (fun _ _ => rfl))) (sa_nil)))) (sa_nil)))) (se_slice (se_var 2) (so_some (se_bin o_add (se_var 3) (se_int))) (so_none)))))))))
theorem c__law_fitted_right (T : Tops K mg) (C__law_due : Cal P w K mg base k "_law_due" st__law_due P__law_due f__law_due) (C_fitted : Cal P w K mg base k "fitted" st_fitted P_fitted f_fitted) : Cal P w K mg base (k + 1) "_law_fitted_right" st__law_fitted_right P__law_fitted_right f__law_fitted_right := by
  obtain ⟨f, fd, hm, Fd⟩ := T.d__law_fitted_right
  refine ⟨f, fd, fn_ok Fd sc__law_fitted_right fun cdv A around s H E gr => ?_, hm, Fd⟩
  have hN : N__law_fitted_right.Nodup := sc__law_fitted_right.nd
  have tk : Takes (cxOf (L2.CX P w) P w K mg base N__law_fitted_right "_law_fitted_right" (defScope st__law_fitted_right) f cdv A around s H E) (WD E) := takes_of rfl rfl rfl rfl
  unfold m__law_fitted_right
  exact sss_cons (ss_par 3 4 rfl hN (sa_cons (se_callB (c_repr gr.free gr.u100 T.sk) T.b_repr (by decide +kernel) (sa_cons (se_lst (sa_cons (se_var 0) (sa_cons (se_var 1) (sa_nil)))) (sa_nil))) (sa_cons (se_call C__law_due gr tk b__law_due (sa_cons (se_var 0) (sa_cons (se_var 1) (sa_nil)))) (sa_nil))))
    (sss_cons (ss_set 2 hN (se_lst (sa_cons (se_call C_fitted gr tk b_fitted (sa_cons (se_var 0) (sa_cons (se_var 1) (sa_nil)))) (sa_cons (se_callK0 (ks := ["kinds", "patterns"]) C_fitted gr tk [(true, 1), (true, 0)] bk0_fitted (sk_cons (se_var 1) (sk_cons (se_var 0) (sk_nil))) (len_cons (len_cons len_nil))) (sa_nil)))))
    (sss_one (ss_ret (se_and (se_cmp (o_eq gr.u64 T.sk) (se_callB (c_repr gr.free gr.u100 T.sk) T.b_repr (by decide +kernel) (sa_cons (se_var 2) (sa_nil))) (se_callB (c_repr gr.free gr.u100 T.sk) T.b_repr (by decide +kernel) (sa_cons (se_lst (sa_cons (se_var 4) (sa_cons (se_var 4) (sa_nil)))) (sa_nil))) (nobehind _ (by decide) (by decide))) (se_one (se_cmp (o_eq gr.u64 T.sk) (se_callB (c_repr gr.free gr.u100 T.sk) T.b_repr (by decide +kernel) (sa_cons (se_lst (sa_cons (se_var 0) (sa_cons (se_var 1) (sa_nil)))) (sa_nil))) (se_var 3) (nobehind _ (by decide) (by decide))))))))
theorem c_law (T : Tops K mg) (C__law_hand : Cal P w K mg base k "_law_hand" st__law_hand P__law_hand f__law_hand) (C__law_draw : Cal P w K mg base k "_law_draw" st__law_draw P__law_draw f__law_draw) (C__law_put : Cal P w K mg base k "_law_put" st__law_put P__law_put f__law_put) (C__law_pick : Cal P w K mg base k "_law_pick" st__law_pick P__law_pick f__law_pick) (C__law_word : Cal P w K mg base k "_law_word" st__law_word P__law_word f__law_word) (C__law_filled_right : Cal P w K mg base k "_law_filled_right" st__law_filled_right P__law_filled_right f__law_filled_right) (C__law_form : Cal P w K mg base k "_law_form" st__law_form P__law_form f__law_form) (C__law_bent : Cal P w K mg base k "_law_bent" st__law_bent P__law_bent f__law_bent) (C__law_fitted_right : Cal P w K mg base k "_law_fitted_right" st__law_fitted_right P__law_fitted_right f__law_fitted_right) : Cal P w K mg base (k + 1) "law" st_law P_law f_law := by
  obtain ⟨f, fd, hm, Fd⟩ := T.d_law
  refine ⟨f, fd, fn_ok Fd sc_law fun cdv A around s H E gr => ?_, hm, Fd⟩
  have hN : N_law.Nodup := sc_law.nd
  have tk : Takes (cxOf (L2.CX P w) P w K mg base N_law "law" (defScope st_law) f cdv A around s H E) (WD E) := takes_of rfl rfl rfl rfl
  unfold m_law
  exact sss_cons (ss_set 1 hN (se_call C__law_hand gr tk b__law_hand (sa_cons (se_var 0) (sa_nil))))
    (sss_cons (ss_set 2 hN (se_lst (sa_cons (se_tup (sa_cons (se_lst (sa_cons (se_str) (sa_cons (se_str) (sa_nil)))) (sa_cons (se_lst (sa_cons (se_str) (sa_cons (se_str) (sa_nil)))) (sa_nil)))) (sa_cons (se_tup (sa_cons (se_lst (sa_cons (se_str) (sa_cons (se_str) (sa_nil)))) (sa_cons (se_lst (sa_cons (se_str) (sa_cons (se_str) (sa_nil)))) (sa_nil)))) (sa_cons (se_tup (sa_cons (se_lst (sa_cons (se_str) (sa_nil))) (sa_cons (se_lst (sa_cons (se_str) (sa_nil))) (sa_nil)))) (sa_cons (se_tup (sa_cons (se_lst (sa_cons (se_str) (sa_cons (se_str) (sa_cons (se_str) (sa_nil))))) (sa_cons (se_lst (sa_cons (se_str) (sa_nil))) (sa_nil)))) (sa_nil)))))))
    (sss_cons (ss_for (passes_of rfl) rfl (si_range1 rfl T.b_range (sa_cons (se_int) (sa_nil))) (sg_name 3 hN) (sss_cons (ss_set 4 hN (se_call C__law_pick gr tk b__law_pick (sa_cons (se_var 1) (sa_cons (se_var 2) (sa_nil)))))
    (sss_cons (ss_set 5 hN (se_callTy c_tuple T.b_tuple (by decide +kernel) (sa_cons (se_lc (own := [("k", 11)]) rfl hN (si_range1 rfl T.b_range (sa_cons (se_call C__law_pick gr tk b__law_pick (sa_cons (se_var 1) (sa_cons (se_lst (sa_cons (se_int) (sa_cons (se_int) (sa_cons (se_int) (sa_cons (se_int) (sa_cons (se_int) (sa_cons (se_int) (sa_nil)))))))) (sa_nil)))) (sa_nil))) (blkOk_by (N := N_law) (sc := defScope st_law) (by decide +kernel)) (fun _ _ _ _ _ => sg_name 11 hN) (fun _ _ _ _ _ => sts_nil) (fun _ _ _ _ _ => se_call C__law_form gr takes0 b__law_form (sa_cons (se_var 1) (sa_cons (se_var 4) (sa_nil)))) (by decide)) (sa_nil))))
    (sss_cons (ss_set 6 hN (se_call C__law_word gr tk b__law_word (sa_cons (se_var 1) (sa_cons (se_var 4) (sa_cons (se_int) (sa_nil))))))
    (sss_cons (ss_setLc 7 (own := [("form", 10)]) rfl hN (si_any (se_var 5)) (blkOk_by (N := N_law) (sc := defScope st_law) (by decide +kernel)) (fun _ _ _ _ _ => sg_name 10 hN) (fun _ _ _ _ _ => sts_nil) (fun _ _ _ _ _ => se_call C__law_put gr takes0 b__law_put (sa_cons (se_var 10) (sa_cons (se_var 6) (sa_nil)))) (by decide) (sw_true rfl rfl rfl (by decide +kernel)))
    (sss_cons (ss_for (passes_of rfl) rfl (si_range1 rfl T.b_range (sa_cons (se_bin o_mul (se_call C__law_draw gr tk b__law_draw (sa_cons (se_var 1) (sa_cons (se_int) (sa_nil)))) (se_callTy c_int T.b_int (by decide +kernel) (sa_cons (se_cmp (o_ne gr.u64 T.sk) (se_var 7) (se_lst (sa_nil)) (nobehind _ (by decide) (by decide))) (sa_nil)))) (sa_nil))) (sg_name 8 hN) (sss_cons (ss_set 9 hN (se_call C__law_draw gr tk b__law_draw (sa_cons (se_var 1) (sa_cons (se_callB c_len T.b_len (by decide +kernel) (sa_cons (se_var 7) (sa_nil))) (sa_nil)))))
    (sss_cons (ss_sub gr.u1 (se_var 7) (se_var 9) (se_call C__law_bent gr tk b__law_bent (sa_cons (se_var 1) (sa_cons (se_var 4) (sa_cons (se_ix gr.u1 (se_var 7) (se_var 9) (fun _ _ => rfl)) (sa_nil))))))
    (sss_one (ss_if (PW.pt (sw_and (st_cmp o_gt (se_callB c_len T.b_len (by decide +kernel) (sa_cons (se_ix gr.u1 (se_var 5) (se_var 9) (fun _ _ => rfl)) (sa_nil))) (se_int) (nobehind _ (by decide) (by decide))) (sw_and1 (st_cmp (o_eq gr.u64 T.sk) (se_call C__law_draw gr tk b__law_draw (sa_cons (se_var 1) (sa_cons (se_int) (sa_nil)))) (se_int) (nobehind _ (by decide) (by decide)))))) (sss_one (ss_sub gr.u1 (se_var 7) (se_var 9) (se_slice (se_ix gr.u1 (se_var 5) (se_var 9) (fun _ _ => rfl)) (so_none) (so_some (se_un u_neg (se_int)))))) (sss_nil))))))
    (sss_one (ss_if (PW.pt (sw_or (st_not (st_tru (se_call C__law_fitted_right gr tk b__law_fitted_right (sa_cons (se_var 5) (sa_cons (se_callTy c_tuple T.b_tuple (by decide +kernel) (sa_cons (se_var 7) (sa_nil))) (sa_nil)))))) (sw_or1 (st_not (st_tru (se_call C__law_filled_right gr tk b__law_filled_right (sa_cons (se_var 5) (sa_cons (se_var 6) (sa_nil))))))))) (sss_one (ss_ret (se_bl))) (sss_nil)))))))))
    (sss_one (ss_ret (se_bl)))))
/-- all of them, from the last one -/
theorem all_law (T : Tops K mg) : Cal P w K mg base 5 "law" st_law P_law f_law := by
  have C_has_hole : Cal P w K mg base 1 "has_hole" st_has_hole P_has_hole f_has_hole := c_has_hole (k := 0) T
  have C__law_hand : Cal P w K mg base 1 "_law_hand" st__law_hand P__law_hand f__law_hand := c__law_hand (k := 0) T
  have C__law_draw : Cal P w K mg base 1 "_law_draw" st__law_draw P__law_draw f__law_draw := c__law_draw (k := 0) T
  have C__law_put : Cal P w K mg base 1 "_law_put" st__law_put P__law_put f__law_put := c__law_put (k := 0) T
  have C_filled : Cal P w K mg base 2 "filled" st_filled P_filled f_filled := c_filled (k := 1) T (C_has_hole.mono (by decide))
  have C_tail_of : Cal P w K mg base 2 "tail_of" st_tail_of P_tail_of f_tail_of := c_tail_of (k := 1) T (C_has_hole.mono (by decide))
  have C__law_pick : Cal P w K mg base 2 "_law_pick" st__law_pick P__law_pick f__law_pick := c__law_pick (k := 1) T (C__law_draw.mono (by decide))
  have C__law_due : Cal P w K mg base 2 "_law_due" st__law_due P__law_due f__law_due := c__law_due (k := 1) T (C__law_put.mono (by decide))
  have C_fitted : Cal P w K mg base 3 "fitted" st_fitted P_fitted f_fitted := c_fitted (k := 2) T (C_tail_of.mono (by decide))
  have C__law_word : Cal P w K mg base 3 "_law_word" st__law_word P__law_word f__law_word := c__law_word (k := 2) T (C__law_draw.mono (by decide)) (C__law_pick.mono (by decide))
  have C__law_filled_right : Cal P w K mg base 3 "_law_filled_right" st__law_filled_right P__law_filled_right f__law_filled_right := c__law_filled_right (k := 2) T (C__law_put.mono (by decide)) (C_filled.mono (by decide))
  have C__law_form : Cal P w K mg base 4 "_law_form" st__law_form P__law_form f__law_form := c__law_form (k := 3) T (C__law_draw.mono (by decide)) (C__law_word.mono (by decide))
  have C__law_bent : Cal P w K mg base 4 "_law_bent" st__law_bent P__law_bent f__law_bent := c__law_bent (k := 3) T (C__law_draw.mono (by decide)) (C__law_pick.mono (by decide)) (C__law_word.mono (by decide))
  have C__law_fitted_right : Cal P w K mg base 4 "_law_fitted_right" st__law_fitted_right P__law_fitted_right f__law_fitted_right := c__law_fitted_right (k := 3) T (C__law_due.mono (by decide)) (C_fitted.mono (by decide))
  have C_law : Cal P w K mg base 5 "law" st_law P_law f_law := c_law (k := 4) T (C__law_hand.mono (by decide)) (C__law_draw.mono (by decide)) (C__law_put.mono (by decide)) (C__law_pick.mono (by decide)) (C__law_word.mono (by decide)) (C__law_filled_right.mono (by decide)) (C__law_form.mono (by decide)) (C__law_bent.mono (by decide)) (C__law_fitted_right.mono (by decide))
  exact C_law
end
/-- what the top has written, by its facts -/
theorem tops_mk {K : PySem.W.Frag} {h : Heap} {mg : Str → Option Value} (X : K.In h) (G : h.Ns mainGlobals mg)
    {t_HOLE : Tok}
    {f0 : Addr} {od0 an0 : Option Addr} {sl0 : Array (Option Value)} {oc0 kV0 dc0 pm0 cd0 ct0 : Value}
    {f1 : Addr} {od1 an1 : Option Addr} {sl1 : Array (Option Value)} {oc1 kV1 dc1 pm1 cd1 ct1 : Value}
    {f2 : Addr} {od2 an2 : Option Addr} {sl2 : Array (Option Value)} {oc2 kV2 dc2 pm2 cd2 ct2 : Value}
    {f3 : Addr} {od3 an3 : Option Addr} {sl3 : Array (Option Value)} {oc3 kV3 dc3 pm3 cd3 ct3 : Value}
    {f4 : Addr} {od4 an4 : Option Addr} {sl4 : Array (Option Value)} {oc4 kV4 dc4 pm4 cd4 ct4 : Value}
    {f5 : Addr} {od5 an5 : Option Addr} {sl5 : Array (Option Value)} {oc5 kV5 dc5 pm5 cd5 ct5 : Value}
    {f6 : Addr} {od6 an6 : Option Addr} {sl6 : Array (Option Value)} {oc6 kV6 dc6 pm6 cd6 ct6 : Value}
    {f7 : Addr} {od7 an7 : Option Addr} {sl7 : Array (Option Value)} {oc7 kV7 dc7 pm7 cd7 ct7 : Value}
    {f8 : Addr} {od8 an8 : Option Addr} {sl8 : Array (Option Value)} {oc8 kV8 dc8 pm8 cd8 ct8 : Value}
    {f9 : Addr} {od9 an9 : Option Addr} {sl9 : Array (Option Value)} {oc9 kV9 dc9 pm9 cd9 ct9 : Value}
    {f10 : Addr} {od10 an10 : Option Addr} {sl10 : Array (Option Value)} {oc10 kV10 dc10 pm10 cd10 ct10 : Value}
    {f11 : Addr} {od11 an11 : Option Addr} {sl11 : Array (Option Value)} {oc11 kV11 dc11 pm11 cd11 ct11 : Value}
    {f12 : Addr} {od12 an12 : Option Addr} {sl12 : Array (Option Value)} {oc12 kV12 dc12 pm12 cd12 ct12 : Value}
    {f13 : Addr} {od13 an13 : Option Addr} {sl13 : Array (Option Value)} {oc13 kV13 dc13 pm13 cd13 ct13 : Value}
    {f14 : Addr} {od14 an14 : Option Addr} {sl14 : Array (Option Value)} {oc14 kV14 dc14 pm14 cd14 ct14 : Value}
    (yS : K.lookup sysModules = none)
    (z_int : PySem.W.nsIn K mainGlobals "int" = some none)
    (z_isinstance : PySem.W.nsIn K mainGlobals "isinstance" = some none)
    (z_len : PySem.W.nsIn K mainGlobals "len" = some none)
    (z_list : PySem.W.nsIn K mainGlobals "list" = some none)
    (z_range : PySem.W.nsIn K mainGlobals "range" = some none)
    (z_repr : PySem.W.nsIn K mainGlobals "repr" = some none)
    (z_str : PySem.W.nsIn K mainGlobals "str" = some none)
    (z_tuple : PySem.W.nsIn K mainGlobals "tuple" = some none)
    (z_zip : PySem.W.nsIn K mainGlobals "zip" = some none)
    (g_HOLE : PySem.W.nsIn K mainGlobals "HOLE" = some (some (.str "T" t_HOLE)))
    (a0 : PySem.W.nsIn K mainGlobals "has_hole" = some (some (.ref f0))) (l0 : K.lookup f0 = some ⟨oc0, od0, .func (PySem.W.fnOf "has_hole" "has_hole" (defArgs st_has_hole) (defBody st_has_hole) (defScope st_has_hole) .none kV0 dc0 pm0 an0 cd0 ct0), sl0⟩) (c0 : PySem.W.codeIn K cd0 "has_hole" = true) (k0 : PySem.W.keepIn K (.ref f0) = true)
    (a1 : PySem.W.nsIn K mainGlobals "_law_hand" = some (some (.ref f1))) (l1 : K.lookup f1 = some ⟨oc1, od1, .func (PySem.W.fnOf "_law_hand" "_law_hand" (defArgs st__law_hand) (defBody st__law_hand) (defScope st__law_hand) .none kV1 dc1 pm1 an1 cd1 ct1), sl1⟩) (c1 : PySem.W.codeIn K cd1 "_law_hand" = true) (k1 : PySem.W.keepIn K (.ref f1) = true)
    (a2 : PySem.W.nsIn K mainGlobals "_law_draw" = some (some (.ref f2))) (l2 : K.lookup f2 = some ⟨oc2, od2, .func (PySem.W.fnOf "_law_draw" "_law_draw" (defArgs st__law_draw) (defBody st__law_draw) (defScope st__law_draw) .none kV2 dc2 pm2 an2 cd2 ct2), sl2⟩) (c2 : PySem.W.codeIn K cd2 "_law_draw" = true) (k2 : PySem.W.keepIn K (.ref f2) = true)
    (a3 : PySem.W.nsIn K mainGlobals "_law_put" = some (some (.ref f3))) (l3 : K.lookup f3 = some ⟨oc3, od3, .func (PySem.W.fnOf "_law_put" "_law_put" (defArgs st__law_put) (defBody st__law_put) (defScope st__law_put) .none kV3 dc3 pm3 an3 cd3 ct3), sl3⟩) (c3 : PySem.W.codeIn K cd3 "_law_put" = true) (k3 : PySem.W.keepIn K (.ref f3) = true)
    (a4 : PySem.W.nsIn K mainGlobals "filled" = some (some (.ref f4))) (l4 : K.lookup f4 = some ⟨oc4, od4, .func (PySem.W.fnOf "filled" "filled" (defArgs st_filled) (defBody st_filled) (defScope st_filled) .none kV4 dc4 pm4 an4 cd4 ct4), sl4⟩) (c4 : PySem.W.codeIn K cd4 "filled" = true) (k4 : PySem.W.keepIn K (.ref f4) = true)
    (a5 : PySem.W.nsIn K mainGlobals "tail_of" = some (some (.ref f5))) (l5 : K.lookup f5 = some ⟨oc5, od5, .func (PySem.W.fnOf "tail_of" "tail_of" (defArgs st_tail_of) (defBody st_tail_of) (defScope st_tail_of) .none kV5 dc5 pm5 an5 cd5 ct5), sl5⟩) (c5 : PySem.W.codeIn K cd5 "tail_of" = true) (k5 : PySem.W.keepIn K (.ref f5) = true)
    (a6 : PySem.W.nsIn K mainGlobals "_law_pick" = some (some (.ref f6))) (l6 : K.lookup f6 = some ⟨oc6, od6, .func (PySem.W.fnOf "_law_pick" "_law_pick" (defArgs st__law_pick) (defBody st__law_pick) (defScope st__law_pick) .none kV6 dc6 pm6 an6 cd6 ct6), sl6⟩) (c6 : PySem.W.codeIn K cd6 "_law_pick" = true) (k6 : PySem.W.keepIn K (.ref f6) = true)
    (a7 : PySem.W.nsIn K mainGlobals "_law_due" = some (some (.ref f7))) (l7 : K.lookup f7 = some ⟨oc7, od7, .func (PySem.W.fnOf "_law_due" "_law_due" (defArgs st__law_due) (defBody st__law_due) (defScope st__law_due) .none kV7 dc7 pm7 an7 cd7 ct7), sl7⟩) (c7 : PySem.W.codeIn K cd7 "_law_due" = true) (k7 : PySem.W.keepIn K (.ref f7) = true)
    (a8 : PySem.W.nsIn K mainGlobals "fitted" = some (some (.ref f8))) (l8 : K.lookup f8 = some ⟨oc8, od8, .func (PySem.W.fnOf "fitted" "fitted" (defArgs st_fitted) (defBody st_fitted) (defScope st_fitted) .none kV8 dc8 pm8 an8 cd8 ct8), sl8⟩) (c8 : PySem.W.codeIn K cd8 "fitted" = true) (k8 : PySem.W.keepIn K (.ref f8) = true)
    (a9 : PySem.W.nsIn K mainGlobals "_law_word" = some (some (.ref f9))) (l9 : K.lookup f9 = some ⟨oc9, od9, .func (PySem.W.fnOf "_law_word" "_law_word" (defArgs st__law_word) (defBody st__law_word) (defScope st__law_word) .none kV9 dc9 pm9 an9 cd9 ct9), sl9⟩) (c9 : PySem.W.codeIn K cd9 "_law_word" = true) (k9 : PySem.W.keepIn K (.ref f9) = true)
    (a10 : PySem.W.nsIn K mainGlobals "_law_filled_right" = some (some (.ref f10))) (l10 : K.lookup f10 = some ⟨oc10, od10, .func (PySem.W.fnOf "_law_filled_right" "_law_filled_right" (defArgs st__law_filled_right) (defBody st__law_filled_right) (defScope st__law_filled_right) .none kV10 dc10 pm10 an10 cd10 ct10), sl10⟩) (c10 : PySem.W.codeIn K cd10 "_law_filled_right" = true) (k10 : PySem.W.keepIn K (.ref f10) = true)
    (a11 : PySem.W.nsIn K mainGlobals "_law_form" = some (some (.ref f11))) (l11 : K.lookup f11 = some ⟨oc11, od11, .func (PySem.W.fnOf "_law_form" "_law_form" (defArgs st__law_form) (defBody st__law_form) (defScope st__law_form) .none kV11 dc11 pm11 an11 cd11 ct11), sl11⟩) (c11 : PySem.W.codeIn K cd11 "_law_form" = true) (k11 : PySem.W.keepIn K (.ref f11) = true)
    (a12 : PySem.W.nsIn K mainGlobals "_law_bent" = some (some (.ref f12))) (l12 : K.lookup f12 = some ⟨oc12, od12, .func (PySem.W.fnOf "_law_bent" "_law_bent" (defArgs st__law_bent) (defBody st__law_bent) (defScope st__law_bent) .none kV12 dc12 pm12 an12 cd12 ct12), sl12⟩) (c12 : PySem.W.codeIn K cd12 "_law_bent" = true) (k12 : PySem.W.keepIn K (.ref f12) = true)
    (a13 : PySem.W.nsIn K mainGlobals "_law_fitted_right" = some (some (.ref f13))) (l13 : K.lookup f13 = some ⟨oc13, od13, .func (PySem.W.fnOf "_law_fitted_right" "_law_fitted_right" (defArgs st__law_fitted_right) (defBody st__law_fitted_right) (defScope st__law_fitted_right) .none kV13 dc13 pm13 an13 cd13 ct13), sl13⟩) (c13 : PySem.W.codeIn K cd13 "_law_fitted_right" = true) (k13 : PySem.W.keepIn K (.ref f13) = true)
    (a14 : PySem.W.nsIn K mainGlobals "law" = some (some (.ref f14))) (l14 : K.lookup f14 = some ⟨oc14, od14, .func (PySem.W.fnOf "law" "law" (defArgs st_law) (defBody st_law) (defScope st_law) .none kV14 dc14 pm14 an14 cd14 ct14), sl14⟩) (c14 : PySem.W.codeIn K cd14 "law" = true) (k14 : PySem.W.keepIn K (.ref f14) = true)
    : Tops K mg := by
  exact ⟨(fun o e => nomatch yS.symm.trans e), PySem.W.mg_none_of X G z_int, PySem.W.mg_none_of X G z_isinstance, PySem.W.mg_none_of X G z_len, PySem.W.mg_none_of X G z_list, PySem.W.mg_none_of X G z_range, PySem.W.mg_none_of X G z_repr, PySem.W.mg_none_of X G z_str, PySem.W.mg_none_of X G z_tuple, PySem.W.mg_none_of X G z_zip, ⟨_, PySem.W.mg_of X G g_HOLE⟩, ⟨_, _, PySem.W.mg_of X G a0, fun_mk (st := st_has_hole) l0 c0 k0⟩, ⟨_, _, PySem.W.mg_of X G a1, fun_mk (st := st__law_hand) l1 c1 k1⟩, ⟨_, _, PySem.W.mg_of X G a2, fun_mk (st := st__law_draw) l2 c2 k2⟩, ⟨_, _, PySem.W.mg_of X G a3, fun_mk (st := st__law_put) l3 c3 k3⟩, ⟨_, _, PySem.W.mg_of X G a4, fun_mk (st := st_filled) l4 c4 k4⟩, ⟨_, _, PySem.W.mg_of X G a5, fun_mk (st := st_tail_of) l5 c5 k5⟩, ⟨_, _, PySem.W.mg_of X G a6, fun_mk (st := st__law_pick) l6 c6 k6⟩, ⟨_, _, PySem.W.mg_of X G a7, fun_mk (st := st__law_due) l7 c7 k7⟩, ⟨_, _, PySem.W.mg_of X G a8, fun_mk (st := st_fitted) l8 c8 k8⟩, ⟨_, _, PySem.W.mg_of X G a9, fun_mk (st := st__law_word) l9 c9 k9⟩, ⟨_, _, PySem.W.mg_of X G a10, fun_mk (st := st__law_filled_right) l10 c10 k10⟩, ⟨_, _, PySem.W.mg_of X G a11, fun_mk (st := st__law_form) l11 c11 k11⟩, ⟨_, _, PySem.W.mg_of X G a12, fun_mk (st := st__law_bent) l12 c12 k12⟩, ⟨_, _, PySem.W.mg_of X G a13, fun_mk (st := st__law_fitted_right) l13 c13 k13⟩, ⟨_, _, PySem.W.mg_of X G a14, fun_mk (st := st_law) l14 c14 k14⟩⟩
theorem law_F {K : PySem.W.Frag} {h : Heap} {mg : Str → Option Value} {fa : Addr} (T : Tops K mg) (hfa : mg "law" = some (.ref fa))
    (ans : ∀ ns : List Int, ns.length ≤ 63 → ∃ S', f_law [.ref 0] [.fz (ns.map D.int)] = .ok (.bl true) S') {P : Program} {w : World} :
    ∃ (fd : FuncData) (G : FM), (∀ (s : Shared) (u : Value), BindsTo s fd ⟨[u], []⟩ [("script", u)]) ∧
        (∀ ns : List Int, ns.length ≤ 63 → ∃ S', G [.ref 0] [.fz (ns.map D.int)] = .ok (.bl true) S') ∧
        ∀ base : Heap, K.In base → base.Ns mainGlobals mg → FnG P w K mg base 5 fa fd ["script"] (spG K 1 G) := by
  obtain ⟨f, fd, hm, F⟩ := T.d_law
  have e := hfa.symm.trans hm
  cases e
  refine ⟨fd, f_law, ?_, ans, fun base _ _ => ?_⟩
  · obtain ⟨oc, od, kV, doc, pm, an, cdv, ct, osl, rfl, _⟩ := F.ex
    exact fun s u => .of_eq rfl
  · obtain ⟨f', fd', Fn, hm', F'⟩ := (all_law (P := P) (w := w) (base := base) T).ex
    have e := hm.symm.trans hm'
    cases e
    obtain ⟨_, _, _, _, _, _, _, _, _, rfl, lk, _⟩ := F.ex
    obtain ⟨_, _, _, _, _, _, _, _, _, rfl, lk', _⟩ := F'.ex
    have e := lk.symm.trans lk'
    cases e
    exact Fn
end K3

set_option maxHeartbeats 1000000
/-! put and fitted, on lists of names -/
namespace K3
open PySem L2 DL
def T : Str := Str.ofString "T"
def hole (p : List Str) : Bool := decide (p.getLast? = some T)
def put (f w : List Str) : List Str := f.flatMap fun n => if n = T then w else [n]
def tailL (p k : List Str) : Option (List Str) :=
  if hole p = true then (if (decide (k.length > p.length - 1) && decide (k.take (p.length - 1) = p.take (p.length - 1))) = true then some (k.drop (p.length - 1)) else none)
  else if p = k then some [] else none
/-- a form: T at its end alone -/
def FormOk (p : List Str) : Prop := ∃ i l, p = i ++ [l] ∧ T ∉ i
theorem put_id : ∀ {p : List Str} (w : List Str), T ∉ p → put p w = p
  | [], w, h => rfl
  | x :: p, w, h => by
    have h1 : x ≠ T := fun z => h (by rw [z]; exact List.mem_cons_self)
    have h2 : T ∉ p := fun z => h (List.mem_cons_of_mem _ z)
    unfold put
    rw [List.flatMap_cons, if_neg h1]
    show x :: put p w = _
    rw [put_id w h2]
theorem put_hole {i w : List Str} (h : T ∉ i) : put (i ++ [T]) w = i ++ w := by
  have := put_id w h
  unfold put at this ⊢
  rw [List.flatMap_append, this, List.flatMap_cons, if_pos rfl]
  simp
theorem hole_app (i : List Str) (l : Str) : hole (i ++ [l]) = decide (l = T) := by
  unfold hole
  simp
theorem form_cases {p : List Str} (h : FormOk p) : (∃ i, p = i ++ [T] ∧ T ∉ i ∧ hole p = true ∧ ∀ w, put p w = i ++ w) ∨ (T ∉ p ∧ p ≠ [] ∧ hole p = false ∧ ∀ w, put p w = p) := by
  obtain ⟨i, l, rfl, hi⟩ := h
  by_cases hl : l = T
  · subst hl
    exact .inl ⟨i, rfl, hi, by rw [hole_app]; simp, fun w => put_hole hi⟩
  · have : T ∉ i ++ [l] := by
      simp only [List.mem_append, List.mem_singleton, not_or]
      exact ⟨hi, fun z => hl z.symm⟩
    exact .inr ⟨this, by simp, by rw [hole_app, decide_eq_false hl], fun w => put_id w this⟩
theorem tail_some {p k t : List Str} (h : FormOk p) (ht : t ≠ []) : tailL p k = some t ↔ hole p = true ∧ put p t = k := by
  rcases form_cases h with ⟨i, rfl, hi, hh, hp⟩ | ⟨hT, hne, hh, hp⟩
  · have l1 : (i ++ [T]).length - 1 = i.length := by simp
    have l2 : (i ++ [T]).take i.length = i := List.take_left ..
    unfold tailL
    rw [if_pos hh, l1, l2, hp]
    constructor
    · intro e
      split at e
      · rename_i hc
        simp only [Bool.and_eq_true, decide_eq_true_eq] at hc
        cases e
        refine ⟨hh, ?_⟩
        have := List.take_append_drop i.length k
        rw [hc.2] at this
        exact this
      · cases e
    · rintro ⟨_, rfl⟩
      have hpos : 0 < t.length := List.length_pos_iff.mpr ht
      rw [if_pos]
      · rw [List.drop_left]
      · simp only [Bool.and_eq_true, decide_eq_true_eq]
        exact ⟨by rw [List.length_append]; omega, List.take_left ..⟩
  · unfold tailL
    rw [hh]
    simp only [Bool.false_eq_true, if_false, false_and, iff_false]
    split
    · intro e; cases e; exact ht rfl
    · intro e; cases e
theorem tail_nil {p k : List Str} (h : FormOk p) : tailL p k = some [] ↔ hole p = false ∧ p = k := by
  rcases form_cases h with ⟨i, rfl, hi, hh, hp⟩ | ⟨hT, hne, hh, hp⟩
  · unfold tailL
    rw [if_pos hh, hh]
    simp only [Bool.true_eq_false, false_and, iff_false]
    split
    · rename_i hc
      simp only [Bool.and_eq_true, decide_eq_true_eq] at hc
      intro e
      have := List.drop_eq_nil_iff.mp (Option.some.inj e)
      omega
    · intro e; cases e
  · unfold tailL
    rw [hh]
    simp only [Bool.false_eq_true, if_false, true_and]
    split
    · rename_i hc; simp [hc]
    · rename_i hc; simp [hc]
def goF : List Str → List (List Str × List Str) → Option (List Str)
  | found, [] => some found
  | found, (p, k) :: r => match tailL p k with
    | none => none
    | some t => if found ≠ [] ∧ ¬ (t = [] ∨ t = found) then none else goF (if found = [] then t else found) r
def All (t : List Str) (ps : List (List Str × List Str)) : Prop := ∀ q ∈ ps, put q.1 t = q.2
theorem all_cons {t p k : List Str} {r : List (List Str × List Str)} : All t ((p, k) :: r) ↔ put p t = k ∧ All t r := by
  unfold All
  simp
theorem go_found {found : List Str} (hf : found ≠ []) : ∀ {ps : List (List Str × List Str)}, (∀ q ∈ ps, FormOk q.1) → (goF found ps = some found ∧ All found ps) ∨ (goF found ps = none ∧ ¬ All found ps)
  | [], _ => .inl ⟨rfl, fun q hq => by cases hq⟩
  | (p, k) :: r, h => by
    have hp := h (p, k) List.mem_cons_self
    have ih := go_found hf (ps := r) fun q hq => h q (List.mem_cons_of_mem _ hq)
    have fc := form_cases hp
    unfold goF
    rw [all_cons]
    cases e : tailL p k with
    | none =>
      refine .inr ⟨rfl, fun hh => ?_⟩
      rcases fc with ⟨i, rfl, hi, hh', hpt⟩ | ⟨hT, hne, hh', hpt⟩
      · have := (tail_some hp hf).mpr ⟨hh', hh.1⟩
        rw [e] at this; cases this
      · have h2 := hh.1
        rw [hpt] at h2
        have := (tail_nil hp).mpr ⟨hh', h2⟩
        rw [e] at this; cases this
    | some t =>
      by_cases ht : t = []
      · subst ht
        obtain ⟨h1, h2⟩ := (tail_nil hp).mp e
        have hput : put p found = k := by
          rcases fc with ⟨i, rfl, hi, hh', hpt⟩ | ⟨hT, hne, hh', hpt⟩
          · rw [h1] at hh'; cases hh'
          · rw [hpt]; exact h2
        simp only [true_or, not_true, and_false, if_false, if_neg hf]
        rcases ih with ih | ih
        · exact .inl ⟨ih.1, hput, ih.2⟩
        · exact .inr ⟨ih.1, fun hh => ih.2 hh.2⟩
      · obtain ⟨h1, h2⟩ := (tail_some hp ht).mp e
        by_cases htf : t = found
        · subst htf
          simp only [or_true, not_true, and_false, if_false, if_neg ht]
          rcases ih with ih | ih
          · exact .inl ⟨ih.1, h2, ih.2⟩
          · exact .inr ⟨ih.1, fun hh => ih.2 hh.2⟩
        · simp only [hf, ht, htf, or_self, not_false_eq_true, ne_eq, and_self, if_true]
          refine .inr ⟨trivial, fun hh => ?_⟩
          have := (tail_some hp hf).mpr ⟨h1, hh.1⟩
          rw [e] at this
          exact htf (Option.some.inj this)
theorem go_hole : ∀ {ps : List (List Str × List Str)}, (∀ q ∈ ps, FormOk q.1) → (∃ q ∈ ps, hole q.1 = true) → (∃ t, t ≠ [] ∧ goF [] ps = some t ∧ All t ps) ∨ (goF [] ps = none ∧ ∀ t, t ≠ [] → ¬ All t ps)
  | [], _, h => by obtain ⟨q, hq, _⟩ := h; cases hq
  | (p, k) :: r, h, hh => by
    have hp := h (p, k) List.mem_cons_self
    have hr : ∀ q ∈ r, FormOk q.1 := fun q hq => h q (List.mem_cons_of_mem _ hq)
    have fc := form_cases hp
    unfold goF
    cases e : tailL p k with
    | none =>
      refine .inr ⟨rfl, fun t ht ha => ?_⟩
      rw [all_cons] at ha
      rcases fc with ⟨i, rfl, hi, hh', hpt⟩ | ⟨hT, hne, hh', hpt⟩
      · have := (tail_some hp ht).mpr ⟨hh', ha.1⟩
        rw [e] at this; cases this
      · have h2 := ha.1
        rw [hpt] at h2
        have := (tail_nil hp).mpr ⟨hh', h2⟩
        rw [e] at this; cases this
    | some t =>
      simp only [ne_eq, not_true, false_and, if_false, if_true]
      by_cases ht : t = []
      · subst ht
        obtain ⟨h1, h2⟩ := (tail_nil hp).mp e
        have hput : ∀ w, put p w = k := by
          rcases fc with ⟨i, rfl, hi, hh', hpt⟩ | ⟨hT, hne, hh', hpt⟩
          · rw [h1] at hh'; cases hh'
          · intro w; rw [hpt]; exact h2
        have hex : ∃ q ∈ r, hole q.1 = true := by
          obtain ⟨q, hq, hq2⟩ := hh
          rcases List.mem_cons.mp hq with rfl | hq
          · rw [h1] at hq2; cases hq2
          · exact ⟨q, hq, hq2⟩
        rcases go_hole hr hex with ⟨t, a, b, c⟩ | ⟨b, c⟩
        · exact .inl ⟨t, a, b, all_cons.mpr ⟨hput t, c⟩⟩
        · exact .inr ⟨b, fun t ht ha => c t ht (all_cons.mp ha).2⟩
      · obtain ⟨h1, h2⟩ := (tail_some hp ht).mp e
        rcases go_found ht hr with ⟨a, b⟩ | ⟨a, b⟩
        · exact .inl ⟨t, ht, a, all_cons.mpr ⟨h2, b⟩⟩
        · refine .inr ⟨a, fun t' ht' ha => ?_⟩
          rw [all_cons] at ha
          have := (tail_some hp ht').mpr ⟨h1, ha.1⟩
          rw [e] at this
          have htt : t = t' := Option.some.inj this
          exact b (by rw [htt]; exact ha.2)
theorem go_plain : ∀ {ps : List (List Str × List Str)}, (∀ q ∈ ps, FormOk q.1) → (∀ q ∈ ps, hole q.1 = false) → goF [] ps = if (∀ q ∈ ps, q.1 = q.2) then some [] else none
  | [], _, _ => by simp [goF]
  | (p, k) :: r, h, hh => by
    have hp := h (p, k) List.mem_cons_self
    have hp2 := hh (p, k) List.mem_cons_self
    have ih := go_plain (ps := r) (fun q hq => h q (List.mem_cons_of_mem _ hq)) fun q hq => hh q (List.mem_cons_of_mem _ hq)
    unfold goF
    by_cases hpk : p = k
    · rw [(tail_nil hp).mpr ⟨hp2, hpk⟩]
      simp only [ne_eq, not_true, false_and, if_false, if_true, ih, List.mem_cons, forall_eq_or_imp, hpk, true_and]
    · have : tailL p k = none := by
        unfold tailL
        rw [hp2]
        simp only [Bool.false_eq_true, if_false, if_neg hpk]
      rw [this]
      simp only [List.mem_cons, forall_eq_or_imp, hpk, false_and, if_false]
/-- one that is found is the one -/
theorem all_uniq {ps : List (List Str × List Str)} (h : ∀ q ∈ ps, FormOk q.1) (hh : ∃ q ∈ ps, hole q.1 = true) {t t' : List Str} (a : All t ps) (b : All t' ps) : t = t' := by
  obtain ⟨q, hq, hq2⟩ := hh
  rcases form_cases (h q hq) with ⟨i, e, hi, hh', hpt⟩ | ⟨hT, hne, hh', hpt⟩
  · have h1 := a q hq
    have h2 := b q hq
    rw [hpt] at h1 h2
    exact List.append_cancel_left (h1.trans h2.symm)
  · rw [hq2] at hh'; cases hh'
end K3

set_option maxHeartbeats 1000000
namespace K3
open PySem L2 DL
/-- a text that may be compared -/
abbrev Ok (f : List Str) : Prop := ∀ z ∈ f, PyData.strOk z = true
def optD : Option (List Str) → D
  | none => .non
  | some t => tD t
section
variable {S : Sto} {f g p k w : List Str}
theorem l1 (x : D) : ([x] : List D).length = 1 := rfl
theorem l2 (x y : D) : ([x, y] : List D).length = 2 := rfl
theorem l3 (x y z : D) : ([x, y, z] : List D).length = 3 := rfl
theorem okT : Ok [T] := by
  intro z hz
  rw [List.mem_singleton.mp hz]
  decide +kernel
theorem has_hole_ok (i : List Str) (l : Str) : WP (f_has_hole [tD (i ++ [l])] S) fun r S' => r = .bl (hole (i ++ [l])) ∧ S' = S := by
  refine wp_run (ws_ret ?_)
  have hs : startE 1 [tD (i ++ [l])] = [some (tD (i ++ [l]))] := rfl
  have hi : bIsi [.str l, .raw (.ty "str")] S = some (.bl true, S) := isi_str (A := []) (k := 0) (see_str l)
  rw [hs]
  simp only [r_C, r_V, r_Bin, r_Un, r_Nil, r_Cons, r_Tup, r_Lst, r_Call, r_CB, r_Mt, r_Sl, r_ON, r_OS, r_Rev, r_Dct0, r_Tru, r_Test, r_tAnd, r_tOr, r_tNot, r_tTrue, r_And, r_Or, r_Not, r_If, r_Chain, r_iAny, r_iRg1, g0, g1, g2, g3, g4, g5, t1, t2, t3, t4, t5, st0, bind_ok, wp_bind, wp_ok, ofO_some, neg1, ix_lasts, hi, dTru, if_true, eq_s, hole_app]
  exact ⟨rfl, trivial⟩
theorem filled_ok (hp : FormOk p) (hl : p.length ≤ 1000) (hk : k.length ≤ 1000) : WP (f_filled [tD p, tD k] S) fun r S' => r = tD (put p k) ∧ S' = S := by
  refine wp_run (ws_ret ?_)
  have hs : startE 2 [tD p, tD k] = [some (tD p), some (tD k)] := rfl
  have fc := form_cases hp
  obtain ⟨i, l, rfl, hi⟩ := id hp
  rw [hs]
  simp only [r_C, r_V, r_Bin, r_Un, r_Nil, r_Cons, r_Tup, r_Lst, r_Call, r_CB, r_Mt, r_Sl, r_ON, r_OS, r_Rev, r_Dct0, r_Tru, r_Test, r_tAnd, r_tOr, r_tNot, r_tTrue, r_And, r_Or, r_Not, r_If, r_Chain, r_iAny, r_iRg1, g0, g1, g2, g3, g4, g5, t1, t2, t3, t4, t5, st0, bind_ok, wp_bind, wp_ok, ofO_some, l1, if_true]
  refine (has_hole_ok i l).mono fun r S' hh => ?_
  obtain ⟨rfl, rfl⟩ := hh
  simp only [dTru, wp_ok, bind_ok]
  rcases fc with ⟨j, e, hj, hh, hpt⟩ | ⟨hT, hne, hh, hpt⟩
  · rw [hh, hpt]
    obtain ⟨rfl, _⟩ := List.append_inj' e rfl
    rw [List.length_append] at hl
    simp only [if_true, neg1, sl_inits, r_C, r_V, r_Bin, r_Un, r_Nil, r_Cons, r_Tup, r_Lst, r_Call, r_CB, r_Mt, r_Sl, r_ON, r_OS, r_Rev, r_Dct0, r_Tru, r_Test, r_tAnd, r_tOr, r_tNot, r_tTrue, r_And, r_Or, r_Not, r_If, r_Chain, r_iAny, r_iRg1, g0, g1, g2, g3, g4, g5, t1, t2, t3, t4, t5, st0, bind_ok, wp_bind, wp_ok, ofO_some, add_tD (show i.length + k.length ≤ 1000000 by omega)]
    exact ⟨trivial, trivial⟩
  · rw [hh, hpt]
    simp only [Bool.false_eq_true, if_false, wp_ok]
    exact ⟨trivial, trivial⟩
theorem tail_ok (hp : FormOk p) (op : Ok p) (ok : Ok k) : WP (f_tail_of [tD p, tD k] S) fun r S' => r = optD (tailL p k) ∧ S' = S := by
  refine wp_run (ws_seq (ws_if ?_))
  have hs : startE 3 [tD p, tD k] = [some (tD p), some (tD k), none] := rfl
  obtain ⟨i, l, rfl, hi⟩ := id hp
  rw [hs]
  simp only [r_C, r_V, r_Bin, r_Un, r_Nil, r_Cons, r_Tup, r_Lst, r_Call, r_CB, r_Mt, r_Sl, r_ON, r_OS, r_Rev, r_Dct0, r_Tru, r_Test, r_tAnd, r_tOr, r_tNot, r_tTrue, r_And, r_Or, r_Not, r_If, r_Chain, r_iAny, r_iRg1, g0, g1, g2, g3, g4, g5, t1, t2, t3, t4, t5, st0, bind_ok, wp_bind, wp_ok, ofO_some, l1, if_true]
  refine (has_hole_ok i l).mono fun r S' hh => ?_
  obtain ⟨rfl, rfl⟩ := hh
  simp only [dTru, wp_ok, bind_ok]
  constructor
  · intro hh
    have hf : hole (i ++ [l]) = false := by simpa using hh
    have zl : ([] : List D).length ≤ sizeLine := Nat.zero_le _
    refine ws_ret ?_
    simp only [r_C, r_V, r_Bin, r_Un, r_Nil, r_Cons, r_Tup, r_Lst, r_Call, r_CB, r_Mt, r_Sl, r_ON, r_OS, r_Rev, r_Dct0, r_Tru, r_Test, r_tAnd, r_tOr, r_tNot, r_tTrue, r_And, r_Or, r_Not, r_If, r_Chain, r_iAny, r_iRg1, g0, g1, g2, g3, g4, g5, t1, t2, t3, t4, t5, st0, bind_ok, wp_bind, wp_ok, ofO_some, eq_tD op ok, if_pos zl]
    unfold tailL
    rw [hf]
    by_cases h : i ++ [l] = k
    · simp only [decide_eq_true h, if_true, Bool.false_eq_true, if_false, if_pos h, wp_ok]
      exact ⟨rfl, trivial⟩
    · simp only [decide_eq_false h, Bool.false_eq_true, if_false, if_neg h, wp_ok]
      exact ⟨rfl, trivial⟩
  · intro hh
    have hf : hole (i ++ [l]) = true := by simpa using hh
    refine ws_next ?_
    dsimp only
    refine ws_seq (ws_set ?_)
    have hm : ((i ++ [l]).length : Int) - 1 = (i.length : Int) := by rw [List.length_append]; simp only [List.length_cons, List.length_nil]; omega
    have hm' : (i ++ [l]).length - 1 = i.length := by rw [List.length_append]; simp
    simp only [r_C, r_V, r_Bin, r_Un, r_Nil, r_Cons, r_Tup, r_Lst, r_Call, r_CB, r_Mt, r_Sl, r_ON, r_OS, r_Rev, r_Dct0, r_Tru, r_Test, r_tAnd, r_tOr, r_tNot, r_tTrue, r_And, r_Or, r_Not, r_If, r_Chain, r_iAny, r_iRg1, g0, g1, g2, g3, g4, g5, t1, t2, t3, t4, t5, st0, bind_ok, wp_bind, wp_ok, ofO_some, len_tD, d_sub, hm]
    refine ws_ret ?_
    have o1 : Ok (k.take i.length) := fun z hz => ok z (List.mem_of_mem_take hz)
    have o2 : Ok ((i ++ [l]).take i.length) := fun z hz => op z (List.mem_of_mem_take hz)
    simp only [r_C, r_V, r_Bin, r_Un, r_Nil, r_Cons, r_Tup, r_Lst, r_Call, r_CB, r_Mt, r_Sl, r_ON, r_OS, r_Rev, r_Dct0, r_Tru, r_Test, r_tAnd, r_tOr, r_tNot, r_tTrue, r_And, r_Or, r_Not, r_If, r_Chain, r_iAny, r_iRg1, g0, g1, g2, g3, g4, g5, t1, t2, t3, t4, t5, st0, bind_ok, wp_bind, wp_ok, ofO_some, len_tD, gt_i, sl_take, sl_drop, eq_tD o1 o2]
    by_cases h1 : i.length < k.length
    · have h1' : (i.length : Int) < (k.length : Int) := by omega
      simp only [decide_eq_true h1', if_true, wp_ok]
      by_cases h2 : k.take i.length = (i ++ [l]).take i.length
      · have : (decide (k.length > i.length) && decide (k.take i.length = (i ++ [l]).take i.length)) = true := by rw [decide_eq_true h1, decide_eq_true h2]; rfl
        have et : tailL (i ++ [l]) k = some (k.drop i.length) := by unfold tailL; rw [if_pos hf, hm', if_pos this]
        simp only [decide_eq_true h2, if_true, wp_ok, et]
        exact ⟨rfl, trivial⟩
      · have : ¬ (decide (k.length > i.length) && decide (k.take i.length = (i ++ [l]).take i.length)) = true := by rw [decide_eq_false h2]; simp
        have et : tailL (i ++ [l]) k = none := by unfold tailL; rw [if_pos hf, hm', if_neg this]
        simp only [decide_eq_false h2, Bool.false_eq_true, if_false, wp_ok, et]
        exact ⟨rfl, trivial⟩
    · have h1' : ¬ (i.length : Int) < (k.length : Int) := by omega
      have : ¬ (decide (k.length > i.length) && decide (k.take i.length = (i ++ [l]).take i.length)) = true := by rw [decide_eq_false h1]; simp
      have et : tailL (i ++ [l]) k = none := by unfold tailL; rw [if_pos hf, hm', if_neg this]
      simp only [decide_eq_false h1', Bool.false_eq_true, if_false, wp_ok, et]
      exact ⟨rfl, trivial⟩
theorem at_zip {fs ws : List (List Str)} (S : Sto) (i : Nat) : (Src.zpT (fs.map tD) (ws.map tD)).at_ i S = some ((fs.zip ws).map fun q => D.tup [tD q.1, tD q.2])[i]? := by
  unfold Src.at_ zpAt
  dsimp only
  rw [List.getElem?_map, List.getElem?_map, List.getElem?_map]
  cases e1 : fs[i]? with
  | none =>
    have : (fs.zip ws)[i]? = none := by
      rw [List.getElem?_eq_none_iff] at e1 ⊢
      rw [List.length_zip]; omega
    rw [this]; rfl
  | some f =>
    cases e2 : ws[i]? with
    | none =>
      have : (fs.zip ws)[i]? = none := by
        rw [List.getElem?_eq_none_iff] at e2 ⊢
        rw [List.length_zip]; omega
      rw [this]; rfl
    | some w =>
      have : (fs.zip ws)[i]? = some (f, w) := List.getElem?_zip_eq_some.mpr ⟨e1, e2⟩
      rw [this]; rfl
theorem go_drop {found : List Str} {ps : List (List Str × List Str)} {i : Nat} {q : List Str × List Str} (e : ps[i]? = some q) : goF found (ps.drop i) = match tailL q.1 q.2 with
    | none => none
    | some t => if found ≠ [] ∧ ¬ (t = [] ∨ t = found) then none else goF (if found = [] then t else found) (ps.drop (i + 1)) := by
  have hl : i < ps.length := (List.getElem?_eq_some_iff.mp e).1
  rw [List.drop_eq_getElem_cons hl]
  have : ps[i] = q := (List.getElem?_eq_some_iff.mp e).2
  rw [this]
  rfl
theorem fitted_ok {fs ws : List (List Str)} (hl : fs.length = ws.length) (h24 : fs.length ≤ 1000) (hf : ∀ f ∈ fs, FormOk f ∧ Ok f) (hw : ∀ f ∈ ws, Ok f) :
    WP (f_fitted [.tup (fs.map tD), .tup (ws.map tD)] S) fun r S' => r = optD (goF [] (fs.zip ws)) ∧ S' = S := by
  refine wp_run (ws_seq (ws_set ?_))
  have hs : startE 6 [D.tup (fs.map tD), .tup (ws.map tD)] = [some (.tup (fs.map tD)), some (.tup (ws.map tD)), none, none, none, none] := rfl
  have zl : ([] : List D).length ≤ sizeLine := Nat.zero_le _
  have hlm : (fs.map tD).length = (ws.map tD).length := by rw [List.length_map, List.length_map, hl]
  rw [hs]
  simp only [r_C, r_V, r_Bin, r_Un, r_Nil, r_Cons, r_Tup, r_Lst, r_Call, r_CB, r_Mt, r_Sl, r_ON, r_OS, r_Rev, r_Dct0, r_Tru, r_Test, r_tAnd, r_tOr, r_tNot, r_tTrue, r_And, r_Or, r_Not, r_If, r_Chain, r_iAny, r_iRg1, g0, g1, g2, g3, g4, g5, t1, t2, t3, t4, t5, st0, bind_ok, wp_bind, wp_ok, ofO_some, if_pos zl]
  refine ws_seq (ws_for ?_)
  show WP (iZpS _ _ _) _
  unfold iZpS
  simp only [r_C, r_V, r_Bin, r_Un, r_Nil, r_Cons, r_Tup, r_Lst, r_Call, r_CB, r_Mt, r_Sl, r_ON, r_OS, r_Rev, r_Dct0, r_Tru, r_Test, r_tAnd, r_tOr, r_tNot, r_tTrue, r_And, r_Or, r_Not, r_If, r_Chain, r_iAny, r_iRg1, g0, g1, g2, g3, g4, g5, t1, t2, t3, t4, t5, st0, bind_ok, wp_bind, wp_ok, ofO_some, if_pos hlm]
  refine ⟨_, fun i ρ S' => ∃ found o3 o4 o5, ρ = [some (.tup (fs.map tD)), some (.tup (ws.map tD)), some (tD found), o3, o4, o5] ∧ Ok found ∧ goF [] (fs.zip ws) = goF found ((fs.zip ws).drop i) ∧ S' = S, ⟨[], none, none, none, rfl, (fun z hz => by cases hz), rfl, rfl⟩, ?_, fun i ρ S' _ => at_zip S' i, ?_, ?_⟩
  · rw [List.length_map, List.length_zip]; omega
  · rintro i ρ S' d ⟨found, o3, o4, o5, rfl, of, hg, rfl⟩ hd
    rw [List.getElem?_map] at hd
    obtain ⟨⟨p, k⟩, eq, rfl⟩ := Option.map_eq_some_iff.mp hd
    obtain ⟨e1, e2⟩ := List.getElem?_zip_eq_some.mp eq
    obtain ⟨hp, op⟩ := hf p (List.mem_of_getElem? e1)
    have okk := hw k (List.mem_of_getElem? e2)
    rw [go_drop eq] at hg
    refine ⟨_, rfl, ws_seq (ws_set ?_)⟩
    simp only [r_C, r_V, r_Bin, r_Un, r_Nil, r_Cons, r_Tup, r_Lst, r_Call, r_CB, r_Mt, r_Sl, r_ON, r_OS, r_Rev, r_Dct0, r_Tru, r_Test, r_tAnd, r_tOr, r_tNot, r_tTrue, r_And, r_Or, r_Not, r_If, r_Chain, r_iAny, r_iRg1, g0, g1, g2, g3, g4, g5, t1, t2, t3, t4, t5, st0, bind_ok, wp_bind, wp_ok, ofO_some, l2, if_true]
    refine (tail_ok hp op okk).mono fun r S2 hh => ?_
    obtain ⟨rfl, rfl⟩ := hh
    have htl : ∀ t, tailL p k = some t → Ok t := fun t et => by
      unfold tailL at et
      split at et
      · split at et
        · cases et; exact fun z hz => okk z (List.mem_of_mem_drop hz)
        · cases et
      · split at et
        · cases et; intro z hz; cases hz
        · cases et
    dsimp only at hg
    cases et : tailL p k with
    | none =>
      rw [et] at hg
      dsimp only at hg
      have isn : dIs (optD none) .non S2 = some (.bl true, S2) := rfl
      refine ws_seq (ws_if ?_)
      simp only [r_C, r_V, r_Bin, r_Un, r_Nil, r_Cons, r_Tup, r_Lst, r_Call, r_CB, r_Mt, r_Sl, r_ON, r_OS, r_Rev, r_Dct0, r_Tru, r_Test, r_tAnd, r_tOr, r_tNot, r_tTrue, r_And, r_Or, r_Not, r_If, r_Chain, r_iAny, r_iRg1, g0, g1, g2, g3, g4, g5, t1, t2, t3, t4, t5, st0, bind_ok, wp_bind, wp_ok, ofO_some, isn, if_true]
      refine ⟨fun _ => ws_ret ?_, fun z => nomatch z⟩
      simp only [r_C, wp_ok, hg]
      exact ⟨rfl, trivial⟩
    | some t =>
      rw [et] at hg
      dsimp only at hg
      have ot := htl t et
      have isn : dIs (optD (some t)) .non S2 = some (.bl false, S2) := rfl
      have hin : dNotIn (tD t) (.tup [.tup [], tD found]) S2 = some (.bl (!(decide (([] : List Str) = t) || decide (found = t))), S2) := by
        unfold dNotIn
        have := in_tDs (S := S2) (fs := [[], found]) ot (by
          intro g hg z hz
          simp only [List.mem_cons, List.not_mem_nil, or_false] at hg
          rcases hg with rfl | rfl
          · cases hz
          · exact of z hz)
        have e : (D.tup [.tup [], tD found]) = .tup ([[], found].map tD) := rfl
        rw [e, this]
        simp
      have lz : ([D.tup [], tD found] : List D).length ≤ sizeLine := by show 2 ≤ sizeLine; decide
      refine ws_seq (ws_if ?_)
      simp only [r_C, r_V, r_Bin, r_Un, r_Nil, r_Cons, r_Tup, r_Lst, r_Call, r_CB, r_Mt, r_Sl, r_ON, r_OS, r_Rev, r_Dct0, r_Tru, r_Test, r_tAnd, r_tOr, r_tNot, r_tTrue, r_And, r_Or, r_Not, r_If, r_Chain, r_iAny, r_iRg1, g0, g1, g2, g3, g4, g5, t1, t2, t3, t4, t5, st0, bind_ok, wp_bind, wp_ok, ofO_some, isn, Bool.false_eq_true, if_false, if_pos zl, ne_unitD, if_pos lz]
      have eo : optD (some t) = tD t := rfl
      by_cases hfe : found = []
      · subst hfe
        simp only [List.isEmpty_nil, Bool.not_true, Bool.false_eq_true, if_false, wp_ok]
        refine ⟨(fun z => nomatch z), fun _ => ws_next ?_⟩
        dsimp only
        refine ws_set ?_
        simp only [r_C, r_V, r_Bin, r_Un, r_Nil, r_Cons, r_Tup, r_Lst, r_Call, r_CB, r_Mt, r_Sl, r_ON, r_OS, r_Rev, r_Dct0, r_Tru, r_Test, r_tAnd, r_tOr, r_tNot, r_tTrue, r_And, r_Or, r_Not, r_If, r_Chain, r_iAny, r_iRg1, g0, g1, g2, g3, g4, g5, t1, t2, t3, t4, t5, st0, bind_ok, wp_bind, wp_ok, ofO_some, if_pos zl, eq_unitD, List.isEmpty_nil, if_true, eo]
        simp only [ne_eq, not_true, false_and, if_false, if_true] at hg
        exact ⟨_, _, _, _, rfl, ot, hg, trivial⟩
      · have hne : found.isEmpty = false := by cases found <;> first | rfl | exact (hfe rfl).elim
        simp only [hne, Bool.not_false, if_true, eo, hin, ofO_some, bind_ok, wp_ok]
        have hcond : (decide (([] : List Str) = t) || decide (found = t)) = decide (t = [] ∨ t = found) := by
          rw [← Bool.decide_or]
          exact decide_eq_decide.mpr ⟨fun h => h.elim (fun a => .inl a.symm) (fun a => .inr a.symm), fun h => h.elim (fun a => .inl a.symm) (fun a => .inr a.symm)⟩
        rw [hcond]
        constructor
        · intro hh
          have hn : ¬ (t = [] ∨ t = found) := by simpa using hh
          refine ws_ret ?_
          rw [if_pos ⟨hfe, hn⟩] at hg
          simp only [r_C, wp_ok, hg]
          exact ⟨rfl, trivial⟩
        · intro hh
          have hn : t = [] ∨ t = found := of_decide_eq_true (by simpa only [Bool.not_eq_false'] using hh)
          refine ws_next ?_
          dsimp only
          refine ws_set ?_
          simp only [r_C, r_V, r_Bin, r_Un, r_Nil, r_Cons, r_Tup, r_Lst, r_Call, r_CB, r_Mt, r_Sl, r_ON, r_OS, r_Rev, r_Dct0, r_Tru, r_Test, r_tAnd, r_tOr, r_tNot, r_tTrue, r_And, r_Or, r_Not, r_If, r_Chain, r_iAny, r_iRg1, g0, g1, g2, g3, g4, g5, t1, t2, t3, t4, t5, st0, bind_ok, wp_bind, wp_ok, ofO_some, if_pos zl, eq_unitD, hne, Bool.false_eq_true, if_false]
          rw [if_neg (fun z => z.2 hn), if_neg hfe] at hg
          exact ⟨_, _, _, _, rfl, of, hg, trivial⟩
  · rintro ρ S' ⟨found, o3, o4, o5, rfl, of, hg, rfl⟩
    refine ws_ret ?_
    rw [List.length_map, List.drop_length] at hg
    simp only [r_C, r_V, r_Bin, r_Un, r_Nil, r_Cons, r_Tup, r_Lst, r_Call, r_CB, r_Mt, r_Sl, r_ON, r_OS, r_Rev, r_Dct0, r_Tru, r_Test, r_tAnd, r_tOr, r_tNot, r_tTrue, r_And, r_Or, r_Not, r_If, r_Chain, r_iAny, r_iRg1, g0, g1, g2, g3, g4, g5, t1, t2, t3, t4, t5, st0, bind_ok, wp_bind, wp_ok, ofO_some, hg]
    exact ⟨rfl, trivial⟩
end
end K3

set_option maxHeartbeats 1000000
namespace K3
open PySem L2 DL
section
variable {S : Sto} {f g p k w : List Str}
theorem put_len : ∀ f : List Str, (put f w).length ≤ f.length * (w.length + 1)
  | [] => Nat.zero_le _
  | x :: f => by
    have ih := put_len f
    unfold put at ih ⊢
    rw [List.flatMap_cons, List.length_append, List.length_cons, Nat.add_mul]
    split
    · omega
    · simp only [List.length_cons, List.length_nil]; omega
theorem put_take {i : Nat} {x : Str} (e : f[i]? = some x) : put (f.take (i + 1)) w = put (f.take i) w ++ (if x = T then w else [x]) := by
  have : f.take (i + 1) = f.take i ++ [x] := by rw [List.take_add_one, e]; rfl
  unfold put
  rw [this, List.flatMap_append]
  simp
theorem extend_ok {n m : Nat} {xs ys : List D} (e1 : S[n]? = some (.lst xs)) (e2 : S[m]? = some (.lst ys)) (hl : xs.length + ys.length ≤ 100000) : dExtend (.ref n) [.ref m] S = some (.non, S.set n (.lst (xs ++ ys))) := by
  unfold dExtend
  simp only [e1, e2]
  rw [if_pos (Nat.le_trans hl (by decide))]
theorem put_ok (hf : f.length ≤ 100) (hw : w.length ≤ 100) : WP (f__law_put [tD f, tD w] S) fun r S' => r = tD (put f w) ∧ Stp [] S S' := by
  refine wp_run (ws_seq (ws_set ?_))
  have hs : startE 4 [tD f, tD w] = [some (tD f), some (tD w), none, none] := rfl
  have zl : ([] : List D).length ≤ sizeLine := Nat.zero_le _
  rw [hs]
  simp only [r_C, r_V, r_Bin, r_Un, r_Nil, r_Cons, r_Tup, r_Lst, r_Call, r_CB, r_Mt, r_Sl, r_ON, r_OS, r_Rev, r_Dct0, r_Tru, r_Test, r_tAnd, r_tOr, r_tNot, r_tTrue, r_And, r_Or, r_Not, r_If, r_Chain, r_iAny, r_iRg1, g0, g1, g2, g3, g4, g5, t1, t2, t3, t4, t5, st0, bind_ok, wp_bind, wp_ok, ofO_some, if_pos zl]
  refine ws_seq (ws_for ?_)
  unfold tD
  simp only [r_C, r_V, r_Bin, r_Un, r_Nil, r_Cons, r_Tup, r_Lst, r_Call, r_CB, r_Mt, r_Sl, r_ON, r_OS, r_Rev, r_Dct0, r_Tru, r_Test, r_tAnd, r_tOr, r_tNot, r_tTrue, r_And, r_Or, r_Not, r_If, r_Chain, r_iAny, r_iRg1, g0, g1, g2, g3, g4, g5, t1, t2, t3, t4, t5, st0, bind_ok, wp_bind, wp_ok, ofO_some]
  refine ⟨f.map .str, fun i ρ S' => ∃ o, ρ = [some (tD f), some (tD w), some (.ref S.length), o] ∧ S'[S.length]? = some (.lst ((put (f.take i) w).map .str)) ∧ Stp [] S S', ⟨none, rfl, by simp [put], .push⟩, ?_, fun i ρ S' _ => at_tup i, ?_, ?_⟩
  · rw [List.length_map]; omega
  · rintro i ρ S' d ⟨o, rfl, e, st⟩ hd
    rw [List.getElem?_map] at hd
    obtain ⟨x, ex, rfl⟩ := Option.map_eq_some_iff.mp hd
    have hi : i < f.length := (List.getElem?_eq_some_iff.mp ex).1
    have hlen : ((put (f.take i) w).map D.str).length ≤ 100 * 101 := by
      rw [List.length_map]
      refine Nat.le_trans (put_len _) ?_
      rw [List.length_take]
      exact Nat.mul_le_mul (by omega) (by omega)
    refine ⟨_, rfl, ws_drop ?_⟩
    simp only [r_C, r_V, r_Bin, r_Un, r_Nil, r_Cons, r_Tup, r_Lst, r_Call, r_CB, r_Mt, r_Sl, r_ON, r_OS, r_Rev, r_Dct0, r_Tru, r_Test, r_tAnd, r_tOr, r_tNot, r_tTrue, r_And, r_Or, r_Not, r_If, r_Chain, r_iAny, r_iRg1, g0, g1, g2, g3, g4, g5, t1, t2, t3, t4, t5, st0, bind_ok, wp_bind, wp_ok, ofO_some, if_pos (rc_lst e), eq_s]
    have done : ∀ (ys : List Str), ys.length ≤ 100 → (if x = T then w else [x]) = ys → ∃ S2, dExtend (.ref S.length) [.ref S'.length] (S' ++ [.lst (ys.map .str)]) = some (.non, S2) ∧ S2[S.length]? = some (.lst ((put (f.take (i + 1)) w).map .str)) ∧ Stp [] S S2 := fun ys hys he => by
      refine ⟨_, extend_ok (old_at _ e) (new_at _) (by rw [List.length_map] at *; simp only [List.length_map]; omega), ?_, ?_⟩
      · rw [List.getElem?_set_self (List.getElem?_eq_some_iff.mp (old_at _ e)).1, put_take ex, he, List.map_append]
      · exact (st.trans .push).new (Nat.le_refl _)
    by_cases hx : x = T
    · obtain ⟨S2, h1, h2, h3⟩ := done w hw (if_pos hx)
      have hx' : decide (x = Str.ofString "T") = true := decide_eq_true hx
      simp only [hx', if_true, list_tD, r_C, r_V, r_Bin, r_Un, r_Nil, r_Cons, r_Tup, r_Lst, r_Call, r_CB, r_Mt, r_Sl, r_ON, r_OS, r_Rev, r_Dct0, r_Tru, r_Test, r_tAnd, r_tOr, r_tNot, r_tTrue, r_And, r_Or, r_Not, r_If, r_Chain, r_iAny, r_iRg1, g0, g1, g2, g3, g4, g5, t1, t2, t3, t4, t5, st0, bind_ok, wp_bind, wp_ok, ofO_some, h1]
      exact ⟨_, rfl, h2, h3⟩
    · obtain ⟨S2, h1, h2, h3⟩ := done [x] (by simp) (if_neg hx)
      have hx' : decide (x = Str.ofString "T") = false := decide_eq_false hx
      have l1' : ([D.str x] : List D).length ≤ sizeLine := by show 1 ≤ sizeLine; decide
      simp only [hx', Bool.false_eq_true, if_false, r_C, r_V, r_Bin, r_Un, r_Nil, r_Cons, r_Tup, r_Lst, r_Call, r_CB, r_Mt, r_Sl, r_ON, r_OS, r_Rev, r_Dct0, r_Tru, r_Test, r_tAnd, r_tOr, r_tNot, r_tTrue, r_And, r_Or, r_Not, r_If, r_Chain, r_iAny, r_iRg1, g0, g1, g2, g3, g4, g5, t1, t2, t3, t4, t5, st0, bind_ok, wp_bind, wp_ok, ofO_some, if_pos l1']
      have h1' : dExtend (.ref S.length) [.ref S'.length] (S' ++ [.lst [.str x]]) = some (.non, S2) := h1
      simp only [h1', ofO_some, wp_ok]
      exact ⟨_, rfl, h2, h3⟩
  · rintro ρ S' ⟨o, rfl, e, st⟩
    refine ws_ret ?_
    rw [List.length_map, List.take_length] at e
    simp only [r_C, r_V, r_Bin, r_Un, r_Nil, r_Cons, r_Tup, r_Lst, r_Call, r_CB, r_Mt, r_Sl, r_ON, r_OS, r_Rev, r_Dct0, r_Tru, r_Test, r_tAnd, r_tOr, r_tNot, r_tTrue, r_And, r_Or, r_Not, r_If, r_Chain, r_iAny, r_iRg1, g0, g1, g2, g3, g4, g5, t1, t2, t3, t4, t5, st0, bind_ok, wp_bind, wp_ok, ofO_some, tuple_lst e]
    exact ⟨trivial, st⟩
def dec : D → List Str
  | .tup xs => (strsD xs).getD []
  | _ => []
theorem dec_tD (f : List Str) : dec (tD f) = f := by
  unfold dec tD
  simp only [strsD_map, Option.getD_some]
theorem ok_put (hf : Ok f) (hw : Ok w) : Ok (put f w) := by
  intro z hz
  unfold put at hz
  obtain ⟨n, hn, hz⟩ := List.mem_flatMap.mp hz
  split at hz
  · exact hw z hz
  · rw [List.mem_singleton.mp hz]; exact hf n hn
theorem all_map {t : List Str} : ∀ {fs ws : List (List Str)}, fs.length = ws.length → (All t (fs.zip ws) ↔ fs.map (fun f => put f t) = ws)
  | [], [], _ => by simp [All]
  | [], _ :: _, h => by cases h
  | _ :: _, [], h => by cases h
  | f :: fs, w :: ws, h => by
    have ih := all_map (t := t) (fs := fs) (ws := ws) (by simpa using h)
    rw [List.zip_cons_cons, all_cons, ih, List.map_cons, List.cons.injEq]
theorem eq_zip : ∀ {fs ws : List (List Str)}, fs.length = ws.length → ((∀ q ∈ fs.zip ws, q.1 = q.2) ↔ fs = ws)
  | [], [], _ => by simp
  | [], _ :: _, h => by cases h
  | _ :: _, [], h => by cases h
  | f :: fs, w :: ws, h => by
    have ih := eq_zip (fs := fs) (ws := ws) (by simpa using h)
    rw [List.zip_cons_cons, List.cons.injEq, ← ih]
    simp
/-- [_law_put(form, word[at:]) for form in forms] -/
theorem puts_ok {fs : List (List Str)} {ρ : Ev} {at_ : Nat} {dw : D} (hdw : dw = tD w) (hfs : fs.length ≤ 100) (hf : ∀ f ∈ fs, f.length ≤ 100) (hw : w.length ≤ 100) (e0 : ρ[0]? = some (some (.tup (fs.map tD)))) (e2 : (wipeE ρ [4])[2]? = some (some dw)) (e3 : (wipeE ρ [4])[3]? = some (some (.int (at_ : Int)))) (e4 : 4 < ρ.length) :
    WP (mLc (iAny (mVar 0)) (.nm 4) (tTrue) (mCall 2 f__law_put (aCons (mVar 4) (aCons (mSl (mVar 2) (oSome (mVar 3)) (oNone)) (aNil)))) [4] ρ S) fun r S' => ∃ a, r = .ref a ∧ S'[a]? = some (.lst ((fs.map fun f => put f (w.drop at_)).map tD)) ∧ Stp [] S S' ∧ S.length ≤ a := by
  refine (wp_lc (fs.map tD) (fun _ => true) (fun d => tD (put (dec d) (w.drop at_))) (.tup (fs.map tD)) ?_ (fun _ _ i => at_tup i) (by rw [List.length_map]; omega) ?_).mono ?_
  · simp only [r_iAny, r_V, e0, bind_ok, wp_ok]
    exact ⟨trivial, .refl⟩
  · intro d hd
    obtain ⟨f, hf', rfl⟩ := List.mem_map.mp hd
    refine ⟨_, rfl, fun S' st => ?_⟩
    have g4' : ((wipeE ρ [4]).set 4 (some (tD f)))[4]? = some (some (tD f)) := List.getElem?_set_self (by rw [wipeE_len]; exact e4)
    have g2' : ((wipeE ρ [4]).set 4 (some (tD f)))[2]? = some (some dw) := by rw [List.getElem?_set_ne (by decide)]; exact e2
    have g3' : ((wipeE ρ [4]).set 4 (some (tD f)))[3]? = some (some (.int (at_ : Int))) := by rw [List.getElem?_set_ne (by decide)]; exact e3
    simp only [r_tTrue, wp_ok, true_and, forall_const]
    refine ⟨.refl, ?_⟩
    simp only [r_C, r_V, r_Bin, r_Un, r_Nil, r_Cons, r_Tup, r_Lst, r_Call, r_CB, r_Mt, r_Sl, r_ON, r_OS, r_Rev, r_Dct0, r_Tru, r_Test, r_tAnd, r_tOr, r_tNot, r_tTrue, r_And, r_Or, r_Not, r_If, r_Chain, r_iAny, r_iRg1, g0, g1, g2, g3, g4, g5, t1, t2, t3, t4, t5, st0, bind_ok, wp_bind, wp_ok, ofO_some, g4', g2', g3', hdw, sl_drop, l2, if_true]
    refine (put_ok (hf f hf') (by rw [List.length_drop]; omega)).mono fun r S2 hh => ?_
    rw [dec_tD]
    exact hh
  · rintro r S' ⟨a, rfl, ea, st, hl⟩
    refine ⟨a, rfl, ?_, st, hl⟩
    rw [ea, List.filter_eq_self.mpr fun _ _ => rfl, List.map_map, List.map_map]
    congr 2
    apply List.map_congr_left
    intro f _
    show tD (put (dec (tD f)) (w.drop at_)) = _
    rw [dec_tD]; rfl
theorem inR_len {w : List Str} (h : w.length ≤ 100) : inR (w.length : Int) = true := by
  unfold inR
  rw [Bool.and_eq_true, decide_eq_true_eq, decide_eq_true_eq]; omega
theorem iRg1_of {ms : AM} {ρ : Ev} {S1 : Sto} {j : Int} {n : Nat} (h : ms ρ S = .ok [.int j] S1) (hj : inR j = true) (hn : j.toNat = n) : iRg1 ms ρ S = .ok (.rng 0 n) S1 := by
  subst hn
  unfold iRg1
  rw [h, bind_ok]
  show (if inR j = true then R.ok (Src.rng 0 j.toNat) S1 else R.stk) = _
  rw [if_pos hj]
theorem due_inner {fs ws : List (List Str)} {word : List Str} {o3 o4 : Option D} {Q : Post} {S' : Sto} (hl : fs.length = ws.length) (hfs : fs.length ≤ 100) (hf : ∀ f ∈ fs, FormOk f ∧ Ok f ∧ f.length ≤ 100) (hw : ∀ f ∈ ws, Ok f ∧ f.length ≤ 100) (okw : Ok word) (lw : word.length ≤ 100) {dw : D} (hdw : dw = tD word) {ρ0 : Ev} (hρ : ρ0 = [some (.tup (fs.map tD)), some (.tup (ws.map tD)), some dw, o3, o4])
    (hrt : ∀ n S4, n < word.length → All (word.drop n) (fs.zip ws) → Stp [] S' S4 → Q.rt (tD (word.drop n)) S4)
    (hnx : ∀ o3 o4 S3, Stp [] S' S3 → (∀ a, a < word.length → ¬ All (word.drop a) (fs.zip ws)) → Q.nx [some (.tup (fs.map tD)), some (.tup (ws.map tD)), some dw, o3, o4] S3) :
    WS (sFor (iRg1 (aCons (mCB bLen (aCons (mVar 2) (aNil))) (aNil))) (.nm 3) (sIf (mTest (mBin dEq (mLc (iAny (mVar 0)) (.nm 4) (tTrue) (mCall 2 f__law_put (aCons (mVar 4) (aCons (mSl (mVar 2) (oSome (mVar 3)) (oNone)) (aNil)))) [4]) (mCB bList (aCons (mVar 1) (aNil))))) (sRet (mSl (mVar 2) (oSome (mVar 3)) (oNone))) (sNext)) ρ0 S') Q := by
  have hlen : ∀ S : Sto, bLen [dw] S = some (.int (word.length : Int), S) := fun S => by rw [hdw]; exact len_tD
  have hsl : ∀ (S : Sto) (n : Nat), dSl dw (some (n : Int)) none S = some (tD (word.drop n), S) := fun S n => by rw [hdw]; exact sl_drop _ _
  have hms : ∀ ρ : Ev, ρ[2]? = some (some dw) → (iRg1 (aCons (mCB bLen (aCons (mVar 2) (aNil))) (aNil))) ρ S' = .ok (.rng 0 word.length) S' := fun ρ h2 => by
    refine iRg1_of (j := (word.length : Int)) ?_ (inR_len lw) (Int.toNat_natCast _)
    simp only [r_Cons, r_CB, r_Nil, r_V, h2, bind_ok, ofO_some, hlen]
  refine ws_for ?_
  subst hρ
  rw [hms _ rfl, wp_ok]
  refine ⟨_, fun m ρ S3 => ∃ o3 o4, ρ = [some (.tup (fs.map tD)), some (.tup (ws.map tD)), some dw, o3, o4] ∧ Stp [] S' S3 ∧ ∀ a, a < m → ¬ All (word.drop a) (fs.zip ws), ⟨_, _, rfl, .refl, fun a ha => by omega⟩, ?_, fun i ρ S' _ => at_rng i, ?_, ?_⟩
  · simp; omega
  · rintro m ρ S3 d2 ⟨o3, o4, rfl, st3, hno2⟩ hd2
    rw [List.getElem?_map] at hd2
    obtain ⟨n, en, rfl⟩ := Option.map_eq_some_iff.mp hd2
    have hn : n = m ∧ m < word.length := by
      obtain ⟨h1, h2⟩ := List.getElem?_eq_some_iff.mp en
      rw [List.getElem_range] at h2
      exact ⟨h2.symm, by simpa using h1⟩
    obtain ⟨rfl, hn⟩ := hn
    have ez : (0 : Int) + (n : Int) = (n : Int) := by omega
    refine ⟨_, rfl, ws_if ?_⟩
    rw [r_Test, r_Bin, ez]
    simp only [wp_bind]
    refine (puts_ok hdw hfs (fun f hf' => (hf f hf').2.2) lw rfl rfl rfl (by simp)).mono ?_
    rintro r S4 ⟨a, rfl, ea, st4, _⟩
    have b2 : bList [.tup (ws.map tD)] S4 = some (.ref S4.length, S4 ++ [.lst (ws.map tD)]) := rfl
    have e1 := old_at (.lst (ws.map tD)) ea
    have e2 := new_at (S := S4) (.lst (ws.map tD))
    have st5 := (st3.trans st4).trans (.push (c := .lst (ws.map tD)))
    have okd : Ok (word.drop n) := fun z hz => okw z (List.mem_of_mem_drop hz)
    have okm : ∀ g ∈ fs.map (fun f => put f (word.drop n)), ∀ z ∈ g, PyData.strOk z = true := fun g hg => by
      obtain ⟨f, hf', rfl⟩ := List.mem_map.mp hg
      exact ok_put (hf f hf').2.1 okd
    simp only [r_C, r_V, r_Bin, r_Un, r_Nil, r_Cons, r_Tup, r_Lst, r_Call, r_CB, r_Mt, r_Sl, r_ON, r_OS, r_Rev, r_Dct0, r_Tru, r_Test, r_tAnd, r_tOr, r_tNot, r_tTrue, r_And, r_Or, r_Not, r_If, r_Chain, r_iAny, r_iRg1, g0, g1, g2, g3, g4, g5, t1, t2, t3, t4, t5, st0, bind_ok, wp_bind, wp_ok, ofO_some, b2, eq_lsts e1 e2 okm (fun f hf' => (hw f hf').1)]
    constructor
    · intro he
      have hall : All (word.drop n) (fs.zip ws) := (all_map hl).mpr (of_decide_eq_true he)
      refine ws_ret ?_
      simp only [r_C, r_V, r_Bin, r_Un, r_Nil, r_Cons, r_Tup, r_Lst, r_Call, r_CB, r_Mt, r_Sl, r_ON, r_OS, r_Rev, r_Dct0, r_Tru, r_Test, r_tAnd, r_tOr, r_tNot, r_tTrue, r_And, r_Or, r_Not, r_If, r_Chain, r_iAny, r_iRg1, g0, g1, g2, g3, g4, g5, t1, t2, t3, t4, t5, st0, bind_ok, wp_bind, wp_ok, ofO_some, hsl]
      exact hrt n _ hn hall st5
    · intro he
      refine ws_next ?_
      refine ⟨_, _, rfl, st5, fun a ha => ?_⟩
      by_cases han : a = n
      · rw [han]
        intro z
        have h9 := (all_map hl).mp z
        rw [decide_eq_true h9] at he
        cases he
      · exact hno2 a (by omega)
  · rintro ρ S3 ⟨o3, o4, rfl, st3, hno2⟩
    simp only [List.length_map, List.length_range] at hno2
    exact hnx _ _ _ st3 hno2
theorem due_ok {fs ws : List (List Str)} (hl : fs.length = ws.length) (hfs : fs.length ≤ 100) (hf : ∀ f ∈ fs, FormOk f ∧ Ok f ∧ f.length ≤ 100) (hw : ∀ f ∈ ws, Ok f ∧ f.length ≤ 100) :
    WP (f__law_due [.tup (fs.map tD), .tup (ws.map tD)] S) fun r S' => r = optD (goF [] (fs.zip ws)) ∧ Stp [] S S' := by
  refine wp_run (ws_seq (ws_if ?_))
  have hs : startE 5 [D.tup (fs.map tD), .tup (ws.map tD)] = [some (.tup (fs.map tD)), some (.tup (ws.map tD)), none, none, none] := rfl
  have zl : ([] : List D).length ≤ sizeLine := Nat.zero_le _
  have hq : ∀ q ∈ fs.zip ws, FormOk q.1 := fun q hq => (hf q.1 (List.of_mem_zip hq).1).1
  rw [hs]
  rw [r_Test, r_Bin]
  simp only [wp_bind]
  refine (wp_lc (fs.map tD) (fun d => hole (dec d)) id (.tup (fs.map tD)) ?_ (fun _ _ i => at_tup i) (by rw [List.length_map]; omega) ?_).mono ?_
  · simp only [r_C, r_V, r_Bin, r_Un, r_Nil, r_Cons, r_Tup, r_Lst, r_Call, r_CB, r_Mt, r_Sl, r_ON, r_OS, r_Rev, r_Dct0, r_Tru, r_Test, r_tAnd, r_tOr, r_tNot, r_tTrue, r_And, r_Or, r_Not, r_If, r_Chain, r_iAny, r_iRg1, g0, g1, g2, g3, g4, g5, t1, t2, t3, t4, t5, st0, bind_ok, wp_bind, wp_ok, ofO_some]
    exact ⟨trivial, .refl⟩
  · intro d hd
    obtain ⟨f, hf', rfl⟩ := List.mem_map.mp hd
    obtain ⟨i, l, e, hi⟩ := (hf f hf').1
    refine ⟨_, rfl, fun S' st => ?_⟩
    rw [dec_tD, e, hole_app]
    simp only [wipeE, r_C, r_V, r_Bin, r_Un, r_Nil, r_Cons, r_Tup, r_Lst, r_Call, r_CB, r_Mt, r_Sl, r_ON, r_OS, r_Rev, r_Dct0, r_Tru, r_Test, r_tAnd, r_tOr, r_tNot, r_tTrue, r_And, r_Or, r_Not, r_If, r_Chain, r_iAny, r_iRg1, g0, g1, g2, g3, g4, g5, t1, t2, t3, t4, t5, st0, bind_ok, wp_bind, wp_ok, ofO_some, neg1, ix_lasts, eq_s]
    exact ⟨rfl, .refl, fun _ => ⟨rfl, .refl⟩⟩
  · rintro r S1 ⟨a, rfl, ea, st, _⟩
    have en := new_at (S := S1) (.lst [])
    have ea' := old_at (.lst []) ea
    have st1 := st.trans (.push (c := Cell.lst []))
    simp only [r_Lst, r_Nil, bind_ok, if_pos zl, wp_ok, eq_nil ea' en, ofO_some]
    clear en ea ea'
    generalize S1 ++ [Cell.lst []] = S2 at st1 ⊢
    constructor
    · intro hh
      have noh : ∀ q ∈ fs.zip ws, hole q.1 = false := fun q hq => by
        have hm := (List.of_mem_zip hq).1
        have := List.isEmpty_iff.mp hh
        rw [List.map_id, List.filter_eq_nil_iff] at this
        have := this (tD q.1) (List.mem_map_of_mem hm)
        rw [dec_tD] at this
        simpa using this
      rw [go_plain hq noh]
      refine ws_ret ?_
      have b1 : bList [.tup (fs.map tD)] S2 = some (.ref S2.length, S2 ++ [.lst (fs.map tD)]) := rfl
      have b2 : bList [.tup (ws.map tD)] (S2 ++ [.lst (fs.map tD)]) = some (.ref (S2 ++ [Cell.lst (fs.map tD)]).length, S2 ++ [.lst (fs.map tD)] ++ [.lst (ws.map tD)]) := rfl
      have e1 := old_at (.lst (ws.map tD)) (new_at (S := S2) (.lst (fs.map tD)))
      have e2 := new_at (S := S2 ++ [Cell.lst (fs.map tD)]) (.lst (ws.map tD))
      have st3 := (st1.trans (.push (c := .lst (fs.map tD)))).trans (.push (c := .lst (ws.map tD)))
      simp only [r_C, r_V, r_Bin, r_Un, r_Nil, r_Cons, r_Tup, r_Lst, r_Call, r_CB, r_Mt, r_Sl, r_ON, r_OS, r_Rev, r_Dct0, r_Tru, r_Test, r_tAnd, r_tOr, r_tNot, r_tTrue, r_And, r_Or, r_Not, r_If, r_Chain, r_iAny, r_iRg1, g0, g1, g2, g3, g4, g5, t1, t2, t3, t4, t5, st0, bind_ok, wp_bind, wp_ok, ofO_some, b1, b2, eq_lsts e1 e2 (fun f hf' => (hf f hf').2.1) (fun f hf' => (hw f hf').1)]
      by_cases h : fs = ws
      · rw [if_pos ((eq_zip hl).mpr h)]
        simp only [decide_eq_true h, if_true, if_pos zl, wp_ok]
        exact ⟨rfl, st3⟩
      · rw [if_neg (fun z => h ((eq_zip hl).mp z))]
        simp only [decide_eq_false h, Bool.false_eq_true, if_false, wp_ok]
        exact ⟨rfl, st3⟩
    · intro hh
      have hex : ∃ q ∈ fs.zip ws, hole q.1 = true := by
        have : ¬ ∀ f ∈ fs, hole f = false := fun z => by
          have e : ((fs.map tD).filter fun d => hole (dec d)) = [] := by
            rw [List.filter_eq_nil_iff]
            intro d hd
            obtain ⟨f, hf', rfl⟩ := List.mem_map.mp hd
            rw [dec_tD, z f hf']; simp
          rw [e] at hh
          cases hh
        obtain ⟨f, hf', hfh⟩ : ∃ f ∈ fs, hole f = true := by
          refine Classical.byContradiction fun z => this fun f hf' => ?_
          cases e : hole f with
          | false => rfl
          | true => exact (z ⟨f, hf', e⟩).elim
        obtain ⟨i, hi⟩ := List.getElem?_of_mem hf'
        have hil : i < ws.length := by rw [← hl]; exact (List.getElem?_eq_some_iff.mp hi).1
        exact ⟨(f, ws[i]), List.mem_of_getElem? (List.getElem?_zip_eq_some.mpr ⟨hi, List.getElem?_eq_getElem hil⟩), hfh⟩
      refine ws_next ?_
      dsimp only
      refine ws_seq (ws_for ?_)
      simp only [r_C, r_V, r_Bin, r_Un, r_Nil, r_Cons, r_Tup, r_Lst, r_Call, r_CB, r_Mt, r_Sl, r_ON, r_OS, r_Rev, r_Dct0, r_Tru, r_Test, r_tAnd, r_tOr, r_tNot, r_tTrue, r_And, r_Or, r_Not, r_If, r_Chain, r_iAny, r_iRg1, g0, g1, g2, g3, g4, g5, t1, t2, t3, t4, t5, st0, bind_ok, wp_bind, wp_ok, ofO_some]
      refine ⟨_, fun i ρ S' => ∃ o2 o3 o4, ρ = [some (.tup (fs.map tD)), some (.tup (ws.map tD)), o2, o3, o4] ∧ Stp [] S S' ∧ ∀ j, j < i → ∀ wj, ws[j]? = some wj → ∀ a, a < wj.length → ¬ All (wj.drop a) (fs.zip ws), ⟨none, none, none, rfl, st1, fun j hj => by omega⟩, ?_, fun i ρ S' _ => at_tup i, ?_, ?_⟩
      · rw [List.length_map]; omega
      · rintro i ρ S' d ⟨o2, o3, o4, rfl, st2, hno⟩ hd
        rw [List.getElem?_map] at hd
        obtain ⟨word, ew, rfl⟩ := Option.map_eq_some_iff.mp hd
        obtain ⟨okw, lw⟩ := hw word (List.mem_of_getElem? ew)
        refine ⟨_, rfl, ?_⟩
        generalize hρ : ([some (.tup (fs.map tD)), some (.tup (ws.map tD)), o2, o3, o4] : Ev).set 2 (some (tD word)) = ρ0
        refine due_inner hl hfs hf hw okw lw rfl hρ.symm (fun n S4 hn hall st5 => ?_) fun p3 p4 S3 st3 hno2 => ?_
        · have hne : word.drop n ≠ [] := fun z => by
            have := List.drop_eq_nil_iff.mp z
            omega
          show tD (word.drop n) = _ ∧ _
          rcases go_hole hq hex with ⟨t, ht, hg, ha⟩ | ⟨hg, ha⟩
          · rw [hg, all_uniq hq hex hall ha]
            exact ⟨rfl, st2.trans st5⟩
          · exact (ha _ hne hall).elim
        · refine ⟨_, _, _, rfl, st2.trans st3, fun j hj wj ej => ?_⟩
          by_cases hji : j = i
          · subst hji
            rw [ew] at ej
            cases ej
            exact hno2
          · exact hno j (by omega) wj ej
      · rintro ρ S' ⟨o2, o3, o4, rfl, st2, hno⟩
        rw [List.length_map] at hno
        refine ws_ret ?_
        simp only [r_C, wp_ok]
        rcases go_hole hq hex with ⟨t, ht, hg, ha⟩ | ⟨hg, ha⟩
        · exfalso
          obtain ⟨q, hq1, hq2⟩ := hex
          rcases form_cases (hq q hq1) with ⟨i, e, hi, hh', hpt⟩ | ⟨hT, hne, hh', hpt⟩
          · have h1 := ha q hq1
            rw [hpt] at h1
            obtain ⟨j, hj⟩ := List.getElem?_of_mem (List.of_mem_zip hq1).2
            have hjl := (List.getElem?_eq_some_iff.mp hj).1
            have hpos : 0 < t.length := List.length_pos_iff.mpr ht
            refine hno j hjl q.2 hj i.length (by rw [← h1, List.length_append]; omega) ?_
            rw [← h1, List.drop_left]
            exact ha
          · rw [hq2] at hh'; cases hh'
        · rw [hg]
          exact ⟨rfl, st2⟩
end
end K3

set_option maxHeartbeats 1000000
namespace K3
open PySem L2 DL
section
variable {S : Sto} {f w : List Str} {h c : Nat} {d : D}
theorem hand_new {x : Cell} {S S' : Sto} {n : Nat} (a : Adv h c S S') (hn : n ∉ [h, c]) (hl : S.length ≤ n) : Adv h c S (S'.set n x) := by
  refine ⟨?_, a.2.new hl⟩
  obtain ⟨hne, ns, m, dd, hl, e1, e2⟩ := a.1
  have o1 : n ≠ h := fun z => hn (by simp [z])
  have o2 : n ≠ c := fun z => hn (by simp [z])
  exact ⟨hne, ns, m, dd, hl, by rw [List.getElem?_set_ne o1]; exact e1, by rw [List.getElem?_set_ne o2]; exact e2⟩
theorem inR_int {n : Int} (h0 : 0 ≤ n) (h : n ≤ 1000) : inR n = true := by
  unfold inR
  rw [Bool.and_eq_true, decide_eq_true_eq, decide_eq_true_eq]; omega
/-- a list of drawn things -/
theorem lc_draw {t : Tg} {el : EM} {ρ0 : Ev} {n : Nat} {P : D → Prop} (H : Hand h c S) (hn : n ≤ 1000)
    (step : ∀ (S' : Sto) (j : Nat), Adv h c S S' → ∃ ρ1, t.put (.int (0 + (j : Int))) ρ0 = some ρ1 ∧ WP (el ρ1 S') fun r S2 => P r ∧ Adv h c S' S2) :
    WP (loopC (.rng 0 n) t tTrue el ρ0 S.length FUEL 0 (S ++ [.lst []])) fun r S' => ∃ xs, r = .ref S.length ∧ S'[S.length]? = some (.lst xs) ∧ xs.length = n ∧ (∀ x ∈ xs, P x) ∧ Adv h c S S' := by
  refine wp_loopC ((List.range n).map fun (n : Nat) => D.int (0 + (n : Int))) (fun i acc S' => acc.length = i ∧ (∀ x ∈ acc, P x) ∧ Adv h c S S' ∧ S'[S.length]? = some (.lst acc)) ?_ ?_ ?_ ?_ FUEL 0 [] _ ?_ (Nat.zero_le _) ?_
  · rintro i acc S' ⟨hz, _⟩
    exact ⟨at_rng i, by omega⟩
  · rintro i acc S' d ⟨hz, hp, av, ea⟩ hd
    rw [List.getElem?_map] at hd
    obtain ⟨m, _, rfl⟩ := Option.map_eq_some_iff.mp hd
    obtain ⟨ρ1, e1, hw⟩ := step S' m av
    refine ⟨ρ1, e1, ?_⟩
    simp only [r_tTrue, wp_ok]
    refine ⟨fun _ => hw.mono fun r S2 hh => ?_, fun z => nomatch z⟩
    have ea2 := hh.2.2.at_ (hand_out H) ea
    refine ⟨ea2, by simp [hz], fun x hx => ?_, ?_, ?_⟩
    · rcases List.mem_append.mp hx with hx | hx
      · exact hp x hx
      · rw [List.mem_singleton.mp hx]; exact hh.1
    · exact hand_new (av.trans hh.2) (hand_out H) (Nat.le_refl _)
    · rw [List.getElem?_set_self (List.getElem?_eq_some_iff.mp ea2).1]
  · simp; omega
  · rintro acc S' ⟨hz, hp, av, ea⟩
    simp only [List.length_map, List.length_range] at hz
    exact ⟨acc, rfl, ea, hz, hp, av⟩
  · exact ⟨rfl, (by intro x hx; cases hx), push_hand H, new_at _⟩
  · simp [FUEL]; omega
theorem draw (H : Hand h c S) {n : Int} (h0 : 0 < n) (h1 : n < 1073741824) : WP (f__law_draw [.ref h, .int n] S) fun r S' => ∃ i : Int, r = .int i ∧ 0 ≤ i ∧ i < n ∧ Adv h c S S' :=
  draw_ok (a1 := 70009) (a2 := 2147483549) (a3 := 40692) (a4 := 2147483399) (a5 := 60029) (a6 := 5) (a7 := 2147483563) (a8 := 39373) (a9 := 2147483549) (by decide) H h0 h1
theorem pick_ok (H : Hand h c S) {n : Nat} {xs : List D} (e : S[n]? = some (.lst xs)) (hn : n ∉ [h, c]) (h0 : xs ≠ []) (hl : xs.length < 1000000) : WP (f__law_pick [.ref h, .ref n] S) fun r S' => r ∈ xs ∧ Adv h c S S' := by
  refine wp_run (ws_ret ?_)
  have hs : startE 2 [D.ref h, .ref n] = [some (.ref h), some (.ref n)] := rfl
  have hp : 0 < xs.length := List.length_pos_iff.mpr h0
  rw [hs]
  simp only [r_C, r_V, r_Bin, r_Un, r_Nil, r_Cons, r_Tup, r_Lst, r_Call, r_CB, r_Mt, r_Sl, r_ON, r_OS, r_Rev, r_Dct0, r_Tru, r_Test, r_tAnd, r_tOr, r_tNot, r_tTrue, r_And, r_Or, r_Not, r_If, r_Chain, r_iAny, r_iRg1, g0, g1, g2, g3, g4, g5, t1, t2, t3, t4, t5, st0, bind_ok, wp_bind, wp_ok, ofO_some, len_lst e, l2, if_true]
  refine (draw H (by omega) (by omega)).mono fun r S1 hh => ?_
  obtain ⟨i, rfl, i0, i1, av⟩ := hh
  obtain ⟨x, hx, ex⟩ := at_nat i0 i1
  simp only [ix_lst (av.2.at_ hn e) ex, ofO_some, wp_ok]
  exact ⟨hx, av⟩
theorem pick_new (H : Hand h c S) {xs : List D} (h0 : xs ≠ []) (hl : xs.length < 1000000) : WP (f__law_pick [.ref h, .ref S.length] (S ++ [.lst xs])) fun r S' => r ∈ xs ∧ Adv h c S S' := by
  have a := push_hand (x := .lst xs) H
  exact (pick_ok a.1 (n := S.length) (xs := xs) (by simp) (hand_out H) h0 hl).mono fun r S' hh => ⟨hh.1, a.trans hh.2⟩
def Nm (x : Str) : Prop := PyData.strOk x = true ∧ fit (.str x) = true ∧ x.length ≤ 5
def Nc (x : Str) : Prop := Nm x ∧ x ≠ T
structure NL (h c : Nat) (S : Sto) (n : Nat) (xs : List Str) : Prop where
  o : n ∉ [h, c]
  e : S[n]? = some (.lst (xs.map .str))
  z : xs ≠ []
  l : xs.length ≤ 5
  m : ∀ x ∈ xs, Nc x
theorem NL.adv {n : Nat} {xs : List Str} {S' : Sto} (v : NL h c S n xs) (a : Adv h c S S') : NL h c S' n xs := ⟨v.o, a.2.at_ v.o v.e, v.z, v.l, v.m⟩
theorem NL.pick {n : Nat} {xs : List Str} (v : NL h c S n xs) (H : Hand h c S) : WP (f__law_pick [.ref h, .ref n] S) fun r S' => (∃ x, r = .str x ∧ Nc x) ∧ Adv h c S S' := by
  refine (pick_ok H v.e v.o (by simpa using v.z) (by have := v.l; rw [List.length_map]; omega)).mono fun r S' hh => ⟨?_, hh.2⟩
  obtain ⟨x, hx, rfl⟩ := List.mem_map.mp hh.1
  exact ⟨x, rfl, v.m x hx⟩
/-- the names -/
def Nms (h c : Nat) (S : Sto) (d : D) : Prop := ∃ n1 n2 cs gs, d = .tup [.ref n1, .ref n2] ∧ NL h c S n1 cs ∧ NL h c S n2 gs
theorem Nms.adv {S' : Sto} (v : Nms h c S d) (a : Adv h c S S') : Nms h c S' d := by
  obtain ⟨n1, n2, cs, gs, e, v1, v2⟩ := v
  exact ⟨n1, n2, cs, gs, e, v1.adv a, v2.adv a⟩
theorem strs_of {P : Str → Prop} : ∀ {xs : List D}, (∀ x ∈ xs, ∃ z, x = .str z ∧ P z) → ∃ zs : List Str, xs = zs.map .str ∧ ∀ z ∈ zs, P z
  | [], _ => ⟨[], rfl, fun z hz => by cases hz⟩
  | x :: xs, hh => by
    obtain ⟨z, rfl, hz⟩ := hh x (List.mem_cons_self ..)
    obtain ⟨zs, rfl, hzs⟩ := strs_of fun x hx => hh x (List.mem_cons_of_mem _ hx)
    refine ⟨z :: zs, rfl, fun y hy => ?_⟩
    rcases List.mem_cons.mp hy with rfl | hy
    · exact hz
    · exact hzs y hy
theorem word_ok (v : Nms h c S d) (H : Hand h c S) {m : Nat} (hm : m ≤ 20) : WP (f__law_word [.ref h, d, .int (m : Int)] S) fun r S' => (∃ i l, r = tD (i ++ [l]) ∧ i.length ≤ m ∧ ∀ x ∈ i ++ [l], Nc x) ∧ Adv h c S S' := by
  obtain ⟨n1, n2, cs, gs, rfl, v1, v2⟩ := v
  refine wp_run (ws_seq (ws_asg ?_))
  have hs : startE 7 [D.ref h, .tup [.ref n1, .ref n2], .int (m : Int)] = [some (.ref h), some (.tup [.ref n1, .ref n2]), some (.int (m : Int)), none, none, none, none] := rfl
  rw [hs]
  simp only [r_C, r_V, r_Bin, r_Un, r_Nil, r_Cons, r_Tup, r_Lst, r_Call, r_CB, r_Mt, r_Sl, r_ON, r_OS, r_Rev, r_Dct0, r_Tru, r_Test, r_tAnd, r_tOr, r_tNot, r_tTrue, r_And, r_Or, r_Not, r_If, r_Chain, r_iAny, r_iRg1, g0, g1, g2, g3, g4, g5, t1, t2, t3, t4, t5, st0, bind_ok, wp_bind, wp_ok, ofO_some]
  refine ⟨_, rfl, ws_seq (ws_set ?_)⟩
  have he : (m : Int) + 1 = ((m + 1 : Nat) : Int) := by omega
  simp only [r_Lc, r_iRg1, r_Cons, r_Nil, r_Call, r_V, r_C, r_Bin, g0, g1, g2, g3, g4, g5, t1, t2, t3, t4, t5, st0, bind_ok, wp_bind, ofO_some, d_add, l2, if_true, wp_ok, List.set_cons_succ, List.set_cons_zero, List.length_cons, List.length_nil, Nat.reduceAdd, Nat.zero_add]
  refine (draw H (by omega) (by omega)).mono fun r S1 hh => ?_
  obtain ⟨j', rfl, j0, j1, av⟩ := hh
  have hin := inR_int j0 (show j' ≤ 1000 by omega)
  simp only [if_pos hin, wp_ok]
  have hj : j'.toNat ≤ m := by omega
  generalize j'.toNat = j at hj ⊢
  have hm2 : ([some (.ref h), some (.tup [.ref n1, .ref n2]), some (.int (m : Int)), none, none, none, none] : Ev).length = 7 := rfl
  have body : ∀ (S' : Sto) (k : Nat), Adv h c S1 S' → ∃ ρ1, (Tg.nm 6).put (.int (0 + (k : Int))) (wipeE [some (.ref h), some (.tup [.ref n1, .ref n2]), some (.int (m : Int)), none, some (.ref n1), some (.ref n2), none] [6]) = some ρ1 ∧ WP (mCall 2 f__law_pick (aCons (mVar 0) (aCons (mVar 4) (aNil))) ρ1 S') fun r S2 => (∃ z, r = .str z ∧ Nc z) ∧ Adv h c S' S2 := fun S' k av2 => by
    refine ⟨[some (.ref h), some (.tup [.ref n1, .ref n2]), some (.int (m : Int)), none, some (.ref n1), some (.ref n2), some (.int (0 + (k : Int)))], rfl, ?_⟩
    simp only [r_C, r_V, r_Bin, r_Un, r_Nil, r_Cons, r_Tup, r_Lst, r_Call, r_CB, r_Mt, r_Sl, r_ON, r_OS, r_Rev, r_Dct0, r_Tru, r_Test, r_tAnd, r_tOr, r_tNot, r_tTrue, r_And, r_Or, r_Not, r_If, r_Chain, r_iAny, r_iRg1, g0, g1, g2, g3, g4, g5, t1, t2, t3, t4, t5, st0, bind_ok, wp_bind, wp_ok, ofO_some, l2, if_true]
    exact (v1.adv (av.trans av2)).pick av2.1
  refine (lc_draw (P := fun d => ∃ z, d = .str z ∧ Nc z) av.1 (show j ≤ 1000 by omega) body).mono ?_
  · rintro r S2 ⟨xs, rfl, ea, hl, hp, av2⟩
    obtain ⟨zs, rfl, hzs⟩ := strs_of hp
    refine ws_ret ?_
    simp only [r_C, r_V, r_Bin, r_Un, r_Nil, r_Cons, r_Tup, r_Lst, r_Call, r_CB, r_Mt, r_Sl, r_ON, r_OS, r_Rev, r_Dct0, r_Tru, r_Test, r_tAnd, r_tOr, r_tNot, r_tTrue, r_And, r_Or, r_Not, r_If, r_Chain, r_iAny, r_iRg1, g0, g1, g2, g3, g4, g5, t1, t2, t3, t4, t5, st0, bind_ok, wp_bind, wp_ok, ofO_some, l2, if_true]
    refine ((v2.adv (av.trans av2)).pick av2.1).mono fun r S3 hh => ?_
    obtain ⟨⟨l, rfl, hl2⟩, av3⟩ := hh
    have l1' : ([D.str l] : List D).length ≤ sizeLine := by show 1 ≤ sizeLine; decide
    have ea3 := av3.2.at_ (hand_out av.1) ea
    have hz : (zs.map D.str).length = j := hl
    have hadd := add_lst (old_at (.lst [.str l]) ea3) (new_at (S := S3) (.lst [.str l])) (by rw [hz]; simp; omega)
    have e3 := new_at (S := S3 ++ [Cell.lst [.str l]]) (.lst (zs.map D.str ++ [.str l]))
    simp only [r_C, r_V, r_Bin, r_Un, r_Nil, r_Cons, r_Tup, r_Lst, r_Call, r_CB, r_Mt, r_Sl, r_ON, r_OS, r_Rev, r_Dct0, r_Tru, r_Test, r_tAnd, r_tOr, r_tNot, r_tTrue, r_And, r_Or, r_Not, r_If, r_Chain, r_iAny, r_iRg1, g0, g1, g2, g3, g4, g5, t1, t2, t3, t4, t5, st0, bind_ok, wp_bind, wp_ok, ofO_some, if_pos l1', hadd, tuple_lst e3]
    refine ⟨⟨zs, l, ?_, ?_, fun x hx => ?_⟩, ?_⟩
    · unfold tD; rw [List.map_append]; rfl
    · rw [List.length_map] at hz; omega
    · rcases List.mem_append.mp hx with hx | hx
      · exact hzs x hx
      · rw [List.mem_singleton.mp hx]; exact hl2
    · exact ((av.trans av2).trans av3).trans ((push_hand av3.1).trans (push_hand (push_hand av3.1).1))
end
end K3

set_option maxHeartbeats 1000000
namespace K3
open PySem L2 DL
section
variable {S : Sto} {f w : List Str} {h c : Nat} {d : D}
theorem nmT : Nm T := ⟨by decide +kernel, by decide +kernel, by decide +kernel⟩
def Fm (f : List Str) : Prop := FormOk f ∧ f.length ≤ 6 ∧ ∀ x ∈ f, Nm x
theorem form_ok (v : Nms h c S d) (H : Hand h c S) : WP (f__law_form [.ref h, d] S) fun r S' => (∃ f, r = tD f ∧ Fm f) ∧ Adv h c S S' := by
  refine wp_run (ws_seq (ws_set ?_))
  have hs : startE 3 [D.ref h, d] = [some (.ref h), some d, none] := rfl
  rw [hs]
  simp only [r_C, r_V, r_Bin, r_Un, r_Nil, r_Cons, r_Tup, r_Lst, r_Call, r_CB, r_Mt, r_Sl, r_ON, r_OS, r_Rev, r_Dct0, r_Tru, r_Test, r_tAnd, r_tOr, r_tNot, r_tTrue, r_And, r_Or, r_Not, r_If, r_Chain, r_iAny, r_iRg1, g0, g1, g2, g3, g4, g5, t1, t2, t3, t4, t5, st0, bind_ok, wp_bind, wp_ok, ofO_some, l3, if_true]
  refine (word_ok v H (m := 5) (by decide)).mono ?_
  rintro r S1 ⟨⟨i, l, rfl, hi, hp⟩, av⟩
  refine ws_ret ?_
  simp only [r_C, r_V, r_Bin, r_Un, r_Nil, r_Cons, r_Tup, r_Lst, r_Call, r_CB, r_Mt, r_Sl, r_ON, r_OS, r_Rev, r_Dct0, r_Tru, r_Test, r_tAnd, r_tOr, r_tNot, r_tTrue, r_And, r_Or, r_Not, r_If, r_Chain, r_iAny, r_iRg1, g0, g1, g2, g3, g4, g5, t1, t2, t3, t4, t5, st0, bind_ok, wp_bind, wp_ok, ofO_some, l2, if_true]
  refine (draw av.1 (by decide) (by decide)).mono fun r S2 hh => ?_
  obtain ⟨j, rfl, j0, j1, av2⟩ := hh
  have hadd : dAdd (tD i) (.tup [.str (Str.ofString "T")]) S2 = some (tD (i ++ [T]), S2) := add_tD (f := i) (g := [T]) (by simp; omega)
  have l1' : ([D.str (Str.ofString "T")] : List D).length ≤ sizeLine := by show 1 ≤ sizeLine; decide
  simp only [r_C, r_V, r_Bin, r_Un, r_Nil, r_Cons, r_Tup, r_Lst, r_Call, r_CB, r_Mt, r_Sl, r_ON, r_OS, r_Rev, r_Dct0, r_Tru, r_Test, r_tAnd, r_tOr, r_tNot, r_tTrue, r_And, r_Or, r_Not, r_If, r_Chain, r_iAny, r_iRg1, g0, g1, g2, g3, g4, g5, t1, t2, t3, t4, t5, st0, bind_ok, wp_bind, wp_ok, ofO_some, gt_i]
  cases hd : decide (1 < j) with
  | true =>
    simp only [if_true, r_C, r_V, r_Bin, r_Un, r_Nil, r_Cons, r_Tup, r_Lst, r_Call, r_CB, r_Mt, r_Sl, r_ON, r_OS, r_Rev, r_Dct0, r_Tru, r_Test, r_tAnd, r_tOr, r_tNot, r_tTrue, r_And, r_Or, r_Not, r_If, r_Chain, r_iAny, r_iRg1, g0, g1, g2, g3, g4, g5, t1, t2, t3, t4, t5, st0, bind_ok, wp_bind, wp_ok, ofO_some, neg1, sl_inits, hadd, if_pos l1']
    refine ⟨⟨_, rfl, ⟨i, T, rfl, fun z => (hp T (List.mem_append_left _ z)).2 rfl⟩, by simp; omega, fun x hx => ?_⟩, av.trans av2⟩
    rcases List.mem_append.mp hx with hx | hx
    · exact (hp x (List.mem_append_left _ hx)).1
    · rw [List.mem_singleton.mp hx]; exact nmT
  | false =>
    simp only [Bool.false_eq_true, if_false, r_C, r_V, r_Bin, r_Un, r_Nil, r_Cons, r_Tup, r_Lst, r_Call, r_CB, r_Mt, r_Sl, r_ON, r_OS, r_Rev, r_Dct0, r_Tru, r_Test, r_tAnd, r_tOr, r_tNot, r_tTrue, r_And, r_Or, r_Not, r_If, r_Chain, r_iAny, r_iRg1, g0, g1, g2, g3, g4, g5, t1, t2, t3, t4, t5, st0, bind_ok, wp_bind, wp_ok, ofO_some]
    exact ⟨⟨_, rfl, ⟨i, l, rfl, fun z => (hp T (List.mem_append_left _ z)).2 rfl⟩, by simp; omega, fun x hx => (hp x hx).1⟩, av.trans av2⟩
def Wd (n : Nat) (w : List Str) : Prop := w ≠ [] ∧ w.length ≤ n ∧ ∀ x ∈ w, Nm x
theorem bent_ok {n : Nat} (v : Nms h c S d) (H : Hand h c S) (g : Wd n w) (hn : n ≤ 90) : WP (f__law_bent [.ref h, d, tD w] S) fun r S' => (∃ w', r = tD w' ∧ Wd (n + 6) w') ∧ Adv h c S S' := by
  obtain ⟨y1, y2, y3⟩ := g
  have gp : 0 < w.length := List.length_pos_iff.mpr y1
  refine wp_run (ws_seq (ws_par ?_))
  have hs : startE 5 [D.ref h, d, tD w] = [some (.ref h), some d, some (tD w), none, none] := rfl
  rw [hs]
  simp only [r_C, r_V, r_Bin, r_Un, r_Nil, r_Cons, r_Tup, r_Lst, r_Call, r_CB, r_Mt, r_Sl, r_ON, r_OS, r_Rev, r_Dct0, r_Tru, r_Test, r_tAnd, r_tOr, r_tNot, r_tTrue, r_And, r_Or, r_Not, r_If, r_Chain, r_iAny, r_iRg1, g0, g1, g2, g3, g4, g5, t1, t2, t3, t4, t5, st0, bind_ok, wp_bind, wp_ok, ofO_some, len_tD, l2, if_true]
  refine (draw H (by omega) (by omega)).mono fun r S1 hh => ?_
  obtain ⟨i, rfl, i0, i1, av⟩ := hh
  refine (draw av.1 (by decide) (by decide)).mono fun r S2 hh => ?_
  obtain ⟨j, rfl, j0, j1, av2⟩ := hh
  have av2 := av.trans av2
  refine ⟨_, _, rfl, ws_seq (ws_if ?_)⟩
  obtain ⟨a, rfl⟩ := Int.eq_ofNat_of_zero_le i0
  have ha : a < w.length := by omega
  have va := v.adv av2
  obtain ⟨n1, n2, cs, gs, rfl, v1, v2⟩ := id va
  have x0 : ∀ S : Sto, dIx (.tup [.ref n1, .ref n2]) (.int 0) S = some (.ref n1, S) := fun S => rfl
  have x1 : ∀ S : Sto, dIx (.tup [.ref n1, .ref n2]) (.int 1) S = some (.ref n2, S) := fun S => rfl
  have l1' : ∀ z : Str, ([D.str z] : List D).length ≤ sizeLine := fun z => by show 1 ≤ sizeLine; decide
  have mid : ∀ (p q : List Str) (z : Str), Nc z → (∀ x ∈ p, x ∈ w) → (∀ x ∈ q, x ∈ w) → p.length + q.length ≤ w.length → ∃ w', tD (p ++ [z] ++ q) = tD w' ∧ Wd (n + 6) w' := fun p q z hz hp hq hl => by
    refine ⟨_, rfl, by simp, by simp; omega, fun x hx => ?_⟩
    rcases List.mem_append.mp hx with hx | hx
    · rcases List.mem_append.mp hx with hx | hx
      · exact y3 x (hp x hx)
      · rw [List.mem_singleton.mp hx]; exact hz.1
    · exact y3 x (hq x hx)
  have u1 : ∀ (p : List Str) (z : Str) (S : Sto), p.length ≤ 200 → dAdd (tD p) (.tup [.str z]) S = some (tD (p ++ [z]), S) := fun p z S hl => add_tD (f := p) (g := [z]) (by simp; omega)
  have lt : (w.take a).length + (w.drop a).length ≤ w.length := by rw [List.length_take, List.length_drop]; omega
  have lt1 : (w.take a).length + (w.drop (a + 1)).length ≤ w.length := by rw [List.length_take, List.length_drop]; omega
  simp only [r_C, r_V, r_Bin, r_Un, r_Nil, r_Cons, r_Tup, r_Lst, r_Call, r_CB, r_Mt, r_Sl, r_ON, r_OS, r_Rev, r_Dct0, r_Tru, r_Test, r_tAnd, r_tOr, r_tNot, r_tTrue, r_And, r_Or, r_Not, r_If, r_Chain, r_iAny, r_iRg1, g0, g1, g2, g3, g4, g5, t1, t2, t3, t4, t5, st0, bind_ok, wp_bind, wp_ok, ofO_some, eq_i]
  constructor
  · intro _
    refine ws_ret ?_
    simp only [r_C, r_V, r_Bin, r_Un, r_Nil, r_Cons, r_Tup, r_Lst, r_Call, r_CB, r_Mt, r_Sl, r_ON, r_OS, r_Rev, r_Dct0, r_Tru, r_Test, r_tAnd, r_tOr, r_tNot, r_tTrue, r_And, r_Or, r_Not, r_If, r_Chain, r_iAny, r_iRg1, g0, g1, g2, g3, g4, g5, t1, t2, t3, t4, t5, st0, bind_ok, wp_bind, wp_ok, ofO_some, l3, if_true]
    refine (word_ok va av2.1 (m := 5) (by decide)).mono ?_
    rintro r S3 ⟨⟨i, l, rfl, hi, hp⟩, av3⟩
    exact ⟨⟨_, rfl, by simp, by simp; omega, fun x hx => (hp x hx).1⟩, av2.trans av3⟩
  intro _
  refine ws_next (ws_seq (ws_if ?_))
  simp only [r_C, r_V, r_Bin, r_Un, r_Nil, r_Cons, r_Tup, r_Lst, r_Call, r_CB, r_Mt, r_Sl, r_ON, r_OS, r_Rev, r_Dct0, r_Tru, r_Test, r_tAnd, r_tOr, r_tNot, r_tTrue, r_And, r_Or, r_Not, r_If, r_Chain, r_iAny, r_iRg1, g0, g1, g2, g3, g4, g5, t1, t2, t3, t4, t5, st0, bind_ok, wp_bind, wp_ok, ofO_some, eq_i]
  constructor
  · intro _
    refine ws_ret ?_
    simp only [r_C, r_V, r_Bin, r_Un, r_Nil, r_Cons, r_Tup, r_Lst, r_Call, r_CB, r_Mt, r_Sl, r_ON, r_OS, r_Rev, r_Dct0, r_Tru, r_Test, r_tAnd, r_tOr, r_tNot, r_tTrue, r_And, r_Or, r_Not, r_If, r_Chain, r_iAny, r_iRg1, g0, g1, g2, g3, g4, g5, t1, t2, t3, t4, t5, st0, bind_ok, wp_bind, wp_ok, ofO_some, l2, if_true, sl_take, sl_drop, x0]
    refine (v1.pick av2.1).mono ?_
    rintro r S3 ⟨⟨z, rfl, hz⟩, av3⟩
    simp only [r_C, r_V, r_Bin, r_Un, r_Nil, r_Cons, r_Tup, r_Lst, r_Call, r_CB, r_Mt, r_Sl, r_ON, r_OS, r_Rev, r_Dct0, r_Tru, r_Test, r_tAnd, r_tOr, r_tNot, r_tTrue, r_And, r_Or, r_Not, r_If, r_Chain, r_iAny, r_iRg1, g0, g1, g2, g3, g4, g5, t1, t2, t3, t4, t5, st0, bind_ok, wp_bind, wp_ok, ofO_some, if_pos (l1' _), u1 (w.take a) z S3 (by rw [List.length_take]; omega), add_tD (S := S3) (f := w.take a ++ [z]) (g := w.drop a) (by simp; omega), sl_drop]
    exact ⟨mid _ _ z hz (fun x => List.mem_of_mem_take) (fun x => List.mem_of_mem_drop) lt, av2.trans av3⟩
  intro _
  refine ws_next (ws_seq (ws_if ?_))
  simp only [r_C, r_V, r_Bin, r_Un, r_Nil, r_Cons, r_Tup, r_Lst, r_Call, r_CB, r_Mt, r_Sl, r_ON, r_OS, r_Rev, r_Dct0, r_Tru, r_Test, r_tAnd, r_tOr, r_tNot, r_tTrue, r_And, r_Or, r_Not, r_If, r_Chain, r_iAny, r_iRg1, g0, g1, g2, g3, g4, g5, t1, t2, t3, t4, t5, st0, bind_ok, wp_bind, wp_ok, ofO_some, eq_i]
  obtain ⟨p, l, rfl⟩ : ∃ p l, w = p ++ [l] := ⟨w.dropLast, w.getLast y1, (List.dropLast_concat_getLast y1).symm⟩
  have last : WS (sSeq (sIf (mTest (mBin dEq (mVar 4) (mC (.int 3)))) (sRet (mBin dAdd (mSl (mVar 2) (oNone) (oSome (mUn dNeg (mC (.int 1))))) (mTup (aCons (mCall 2 f__law_pick (aCons (mVar 0) (aCons (mBin dIx (mVar 1) (mC (.int 1))) (aNil)))) (aNil))))) (sNext))
    (sRet (mBin dAdd (mBin dAdd (mSl (mVar 2) (oNone) (oSome (mVar 3))) (mTup (aCons (mCall 2 f__law_pick (aCons (mVar 0) (aCons (mBin dAdd (mBin dIx (mVar 1) (mC (.int 0))) (mBin dIx (mVar 1) (mC (.int 1)))) (aNil)))) (aNil)))) (mSl (mVar 2) (oSome (mBin dAdd (mVar 3) (mC (.int 1)))) (oNone))))
      [some (.ref h), some (.tup [.ref n1, .ref n2]), some (tD (p ++ [l])), some (.int (a : Int)), some (.int j)] S2) { nx := fun _ S' => (∃ w', D.non = tD w' ∧ Wd (n + 6) w') ∧ Adv h c S S', rt := fun r S' => (∃ w', r = tD w' ∧ Wd (n + 6) w') ∧ Adv h c S S' } := by
    refine ws_seq (ws_if ?_)
    simp only [r_C, r_V, r_Bin, r_Un, r_Nil, r_Cons, r_Tup, r_Lst, r_Call, r_CB, r_Mt, r_Sl, r_ON, r_OS, r_Rev, r_Dct0, r_Tru, r_Test, r_tAnd, r_tOr, r_tNot, r_tTrue, r_And, r_Or, r_Not, r_If, r_Chain, r_iAny, r_iRg1, g0, g1, g2, g3, g4, g5, t1, t2, t3, t4, t5, st0, bind_ok, wp_bind, wp_ok, ofO_some, eq_i]
    constructor
    · intro _
      refine ws_ret ?_
      simp only [r_C, r_V, r_Bin, r_Un, r_Nil, r_Cons, r_Tup, r_Lst, r_Call, r_CB, r_Mt, r_Sl, r_ON, r_OS, r_Rev, r_Dct0, r_Tru, r_Test, r_tAnd, r_tOr, r_tNot, r_tTrue, r_And, r_Or, r_Not, r_If, r_Chain, r_iAny, r_iRg1, g0, g1, g2, g3, g4, g5, t1, t2, t3, t4, t5, st0, bind_ok, wp_bind, wp_ok, ofO_some, l2, if_true, neg1, sl_inits, x1]
      refine (v2.pick av2.1).mono ?_
      rintro r S3 ⟨⟨z, rfl, hz⟩, av3⟩
      simp only [r_C, r_V, r_Bin, r_Un, r_Nil, r_Cons, r_Tup, r_Lst, r_Call, r_CB, r_Mt, r_Sl, r_ON, r_OS, r_Rev, r_Dct0, r_Tru, r_Test, r_tAnd, r_tOr, r_tNot, r_tTrue, r_And, r_Or, r_Not, r_If, r_Chain, r_iAny, r_iRg1, g0, g1, g2, g3, g4, g5, t1, t2, t3, t4, t5, st0, bind_ok, wp_bind, wp_ok, ofO_some, if_pos (l1' _), u1 p z S3 (by simp at y2; omega)]
      have := mid p [] z hz (fun x hx => List.mem_append_left _ hx) (fun x hx => by cases hx) (by simp)
      rw [List.append_nil] at this
      exact ⟨this, av2.trans av3⟩
    intro _
    refine ws_next ?_
    dsimp only
    refine ws_ret ?_
    have hadd := add_lst (S := S2) v1.e v2.e (by have := v1.l; have := v2.l; simp; omega)
    have he : (a : Int) + 1 = ((a + 1 : Nat) : Int) := by omega
    simp only [r_C, r_V, r_Bin, r_Un, r_Nil, r_Cons, r_Tup, r_Lst, r_Call, r_CB, r_Mt, r_Sl, r_ON, r_OS, r_Rev, r_Dct0, r_Tru, r_Test, r_tAnd, r_tOr, r_tNot, r_tTrue, r_And, r_Or, r_Not, r_If, r_Chain, r_iAny, r_iRg1, g0, g1, g2, g3, g4, g5, t1, t2, t3, t4, t5, st0, bind_ok, wp_bind, wp_ok, ofO_some, l2, if_true, sl_take, x0, x1, hadd]
    refine (pick_new av2.1 (by have := v1.z; simpa using fun z => absurd z this) (by have := v1.l; have := v2.l; simp; omega)).mono ?_
    rintro r S3 ⟨hr, av3⟩
    obtain ⟨z, rfl, hz⟩ : ∃ z, r = .str z ∧ Nc z := by
      rw [← List.map_append] at hr
      obtain ⟨z, hz, rfl⟩ := List.mem_map.mp hr
      refine ⟨z, rfl, ?_⟩
      rcases List.mem_append.mp hz with hz | hz
      · exact v1.m z hz
      · exact v2.m z hz
    simp only [r_C, r_V, r_Bin, r_Un, r_Nil, r_Cons, r_Tup, r_Lst, r_Call, r_CB, r_Mt, r_Sl, r_ON, r_OS, r_Rev, r_Dct0, r_Tru, r_Test, r_tAnd, r_tOr, r_tNot, r_tTrue, r_And, r_Or, r_Not, r_If, r_Chain, r_iAny, r_iRg1, g0, g1, g2, g3, g4, g5, t1, t2, t3, t4, t5, st0, bind_ok, wp_bind, wp_ok, ofO_some, if_pos (l1' _), d_add, he, sl_drop, u1 ((p ++ [l]).take a) z S3 (by rw [List.length_take]; omega), add_tD (S := S3) (f := (p ++ [l]).take a ++ [z]) (g := (p ++ [l]).drop (a + 1)) (by simp at *; omega)]
    exact ⟨mid _ _ z hz (fun x => List.mem_of_mem_take) (fun x => List.mem_of_mem_drop) lt1, av2.trans av3⟩
  have hsl : dSl (tD (p ++ [l])) (some 1) none S2 = some (tD ((p ++ [l]).drop 1), S2) := sl_drop _ 1
  cases hj : decide (j = 2) with
  | true =>
    simp only [if_true, r_C, r_V, r_Bin, r_Un, r_Nil, r_Cons, r_Tup, r_Lst, r_Call, r_CB, r_Mt, r_Sl, r_ON, r_OS, r_Rev, r_Dct0, r_Tru, r_Test, r_tAnd, r_tOr, r_tNot, r_tTrue, r_And, r_Or, r_Not, r_If, r_Chain, r_iAny, r_iRg1, g0, g1, g2, g3, g4, g5, t1, t2, t3, t4, t5, st0, bind_ok, wp_bind, wp_ok, ofO_some, len_tD, gt_i]
    refine ⟨fun hd => ?_, fun _ => ws_next last⟩
    have hd := of_decide_eq_true hd
    refine ws_ret ?_
    simp only [r_C, r_V, r_Bin, r_Un, r_Nil, r_Cons, r_Tup, r_Lst, r_Call, r_CB, r_Mt, r_Sl, r_ON, r_OS, r_Rev, r_Dct0, r_Tru, r_Test, r_tAnd, r_tOr, r_tNot, r_tTrue, r_And, r_Or, r_Not, r_If, r_Chain, r_iAny, r_iRg1, g0, g1, g2, g3, g4, g5, t1, t2, t3, t4, t5, st0, bind_ok, wp_bind, wp_ok, ofO_some, hsl]
    refine ⟨⟨_, rfl, ?_, ?_, fun x hx => y3 x (List.mem_of_mem_drop hx)⟩, av2⟩
    · intro z
      have := List.drop_eq_nil_iff.mp z
      omega
    · rw [List.length_drop]; omega
  | false =>
    simp only [Bool.false_eq_true, if_false, wp_ok]
    exact ⟨(fun z => nomatch z), fun _ => ws_next last⟩
end
end K3

set_option maxHeartbeats 1000000
namespace K3
open PySem L2 DL
section
variable {S : Sto} {f w : List Str} {h c : Nat} {d : D}
/-- what repr shows -/
def Sh (d : D) (p : PyData) : Prop := (∀ S, see [] 0 S d = some p) ∧ Lim 700000 4 p
theorem wts_bound {W : Nat} : ∀ {ps : List PyData}, (∀ p ∈ ps, wt p ≤ W) → wts ps ≤ ps.length * (W + 2)
  | [], _ => Nat.zero_le _
  | p :: ps, hh => by
    have ih := wts_bound fun p hp => hh p (List.mem_cons_of_mem _ hp)
    have := hh p (List.mem_cons_self ..)
    simp only [wts, List.length_cons, Nat.add_mul]
    omega
theorem lim_pT {n : Nat} (hl : f.length ≤ n) (hf : ∀ x ∈ f, Nm x) : Lim (3 + n * 54) 1 (pT f) := by
  refine lim_tup.mpr ⟨?_, ?_, ?_⟩
  · intro p hp
    obtain ⟨x, hx, rfl⟩ := List.mem_map.mp hp
    exact (hf x hx).2.1
  · have : wts (f.map PyData.str) ≤ (f.map PyData.str).length * (52 + 2) := wts_bound fun p hp => by
      obtain ⟨x, hx, rfl⟩ := List.mem_map.mp hp
      have := (hf x hx).2.2
      simp only [wt]; omega
    rw [List.length_map] at this
    have : f.length * (52 + 2) ≤ n * 54 := Nat.mul_le_mul hl (by decide)
    omega
  · rw [depth_strs]; omega
theorem sh_tD (hl : f.length ≤ 100) (hf : ∀ x ∈ f, Nm x) : Sh (tD f) (pT f) :=
  ⟨fun S => toPw_tD _ f, (lim_pT hl hf).mono (by decide) (by decide)⟩
theorem sh_tDs {fs : List (List Str)} (hl : fs.length ≤ 100) (hf : ∀ f ∈ fs, f.length ≤ 100 ∧ ∀ x ∈ f, Nm x) : Sh (.tup (fs.map tD)) (.tuple (fs.map pT)) := by
  refine ⟨fun S => see_tup (toPws_tDs _ fs), lim_tup.mpr ⟨?_, ?_, ?_⟩⟩
  · intro p hp
    obtain ⟨x, hx, rfl⟩ := List.mem_map.mp hp
    exact (lim_pT (hf x hx).1 (hf x hx).2).f
  · have : wts (fs.map pT) ≤ (fs.map pT).length * (5403 + 2) := wts_bound fun p hp => by
      obtain ⟨x, hx, rfl⟩ := List.mem_map.mp hp
      exact (lim_pT (hf x hx).1 (hf x hx).2).w
    rw [List.length_map] at this
    have : fs.length * (5403 + 2) ≤ 100 * 5405 := Nat.mul_le_mul hl (by decide)
    omega
  · have := depth_pTs fs
    omega
theorem sh_non : Sh .non .none := ⟨fun S => rfl, by decide, by decide, by decide⟩
theorem rep2 {x y : D} {p q : PyData} (hx : Sh x p) (hy : Sh y q) {n : Nat} (e : S[n]? = some (.lst [x, y])) : bRepr [.ref n] S = some (.str (PyData.list [p, q]).shown, S) := by
  refine repr_ok (A := []) (see_lst e (by simp) (sees_cons (hx.1 S) (sees_cons (hy.1 S) sees_nil))) (by decide) ?_ ?_ ?_
  · simp only [fit, fits, hx.2.f, hy.2.f, Bool.and_self]
  · have := hx.2.w
    have := hy.2.w
    simp only [wt, wts]; omega
  · have := hx.2.d
    have := hy.2.d
    simp only [PyData.depth, PyData.depthAll]; omega
theorem go_from : ∀ {found : List Str} {ps : List (List Str × List Str)} {t : List Str}, goF found ps = some t → t = found ∨ ∃ q ∈ ps, ∃ n, t = q.2.drop n
  | found, [], t, e => by
    simp only [goF, Option.some.injEq] at e
    exact .inl e.symm
  | found, (p, k) :: r, t, e => by
    rw [goF] at e
    cases et : tailL p k with
    | none => rw [et] at e; cases e
    | some u =>
      rw [et] at e
      have hu : ∃ n, u = k.drop n := by
        unfold tailL at et
        split at et
        · split at et
          · exact ⟨_, (Option.some.inj et).symm⟩
          · cases et
        · split at et
          · exact ⟨k.length, by rw [← Option.some.inj et, List.drop_length]⟩
          · cases et
      dsimp only at e
      split at e
      · cases e
      · rcases go_from e with h | ⟨q, hq, n, hn⟩
        · split at h
          · obtain ⟨n, hn⟩ := hu
            exact .inr ⟨_, List.mem_cons_self .., n, h.trans hn⟩
          · exact .inl h
        · exact .inr ⟨q, List.mem_cons_of_mem _ hq, n, hn⟩
def Fms (fs : List (List Str)) : Prop := fs.length ≤ 100 ∧ ∀ f ∈ fs, Fm f
def Wds (n : Nat) (ws : List (List Str)) : Prop := ∀ w ∈ ws, Wd n w
theorem sh_go {fs ws : List (List Str)} (hw : Wds 100 ws) : ∃ p, Sh (optD (goF [] (fs.zip ws))) p := by
  cases e : goF [] (fs.zip ws) with
  | none => exact ⟨_, sh_non⟩
  | some t =>
    rcases go_from e with rfl | ⟨q, hq, n, rfl⟩
    · exact ⟨_, sh_tD (f := []) (by simp) (by simp)⟩
    · obtain ⟨_, h2, h3⟩ := hw q.2 (List.of_mem_zip hq).2
      exact ⟨_, sh_tD (by rw [List.length_drop]; omega) fun x hx => h3 x (List.mem_of_mem_drop hx)⟩
theorem fitted_right_ok {fs ws : List (List Str)} (hl : fs.length = ws.length) (hf : Fms fs) (hw : Wds 100 ws) : WP (f__law_fitted_right [.tup (fs.map tD), .tup (ws.map tD)] S) fun r S' => r = .bl true ∧ Stp [] S S' := by
  obtain ⟨hfl, hf⟩ := hf
  have F : Sh (.tup (fs.map tD)) (.tuple (fs.map pT)) := sh_tDs hfl fun f hf' => ⟨by have := (hf f hf').2.1; omega, (hf f hf').2.2⟩
  have W : Sh (.tup (ws.map tD)) (.tuple (ws.map pT)) := sh_tDs (by omega) fun w hw' => (hw w hw').2
  obtain ⟨pg, G⟩ := sh_go (fs := fs) hw
  have okf : ∀ f ∈ fs, FormOk f ∧ Ok f := fun f hf' => ⟨(hf f hf').1, fun x hx => ((hf f hf').2.2 x hx).1⟩
  have okw : ∀ w ∈ ws, Ok w := fun w hw' x hx => ((hw w hw').2.2 x hx).1
  refine wp_run (ws_seq (ws_par ?_))
  have hs : startE 5 [D.tup (fs.map tD), .tup (ws.map tD)] = [some (.tup (fs.map tD)), some (.tup (ws.map tD)), none, none, none] := rfl
  have s2 : 2 ≤ sizeLine := by decide
  have s1 : ∀ {S S' : Sto} {x y : D}, Stp [] S S' → Stp [] S (S' ++ [.lst [x, y]]) := fun st => st.trans .push
  rw [hs]
  simp only [r_C, r_V, r_Bin, r_Un, r_Nil, r_Cons, r_Tup, r_Lst, r_Call, r_CB, r_Mt, r_Sl, r_ON, r_OS, r_Rev, r_Dct0, r_Tru, r_Test, r_tAnd, r_tOr, r_tNot, r_tTrue, r_And, r_Or, r_Not, r_If, r_Chain, r_iAny, r_iRg1, g0, g1, g2, g3, g4, g5, t1, t2, t3, t4, t5, st0, bind_ok, wp_bind, wp_ok, ofO_some, if_pos s2, rep2 F W (new_at _), l2, if_true]
  have dw := due_ok (S := S ++ [Cell.lst [.tup (fs.map tD), .tup (ws.map tD)]]) hl hfl (fun f hf' => ⟨(okf f hf').1, (okf f hf').2, by have := (hf f hf').2.1; omega⟩) fun w hw' => ⟨okw w hw', (hw w hw').2.1⟩
  refine dw.mono fun r S1 hh => ?_
  obtain ⟨rfl, st1⟩ := hh
  have st1' : Stp [] S S1 := Stp.trans .push st1
  refine ⟨_, _, rfl, ws_seq (ws_set ?_)⟩
  have hfit : ∀ S, WP (f_fitted [.tup (fs.map tD), .tup (ws.map tD)] S) fun r S' => r = optD (goF [] (fs.zip ws)) ∧ S' = S := fun S => fitted_ok hl (by omega) okf okw
  generalize optD (goF [] (fs.zip ws)) = g at G hfit ⊢
  have pick2 : ∀ x y : D, DL.pick [(true, 1), (true, 0)] [] [x, y] = [y, x] := fun x y => rfl
  simp only [r_C, r_V, r_Bin, r_Un, r_Nil, r_Cons, r_Tup, r_Lst, r_Call, r_CB, r_Mt, r_Sl, r_ON, r_OS, r_Rev, r_Dct0, r_Tru, r_Test, r_tAnd, r_tOr, r_tNot, r_tTrue, r_And, r_Or, r_Not, r_If, r_Chain, r_iAny, r_iRg1, g0, g1, g2, g3, g4, g5, t1, t2, t3, t4, t5, st0, bind_ok, wp_bind, wp_ok, ofO_some, r_CallK, pick2, l2, if_true]
  refine (hfit _).mono fun r S2 hh => ?_
  rw [hh.1, hh.2]
  refine (hfit _).mono fun r' S3 hh => ?_
  rw [hh.1, hh.2]
  clear hh
  simp only [if_pos s2, wp_ok]
  refine ws_ret ?_
  have e1 := new_at (S := S1) (.lst [g, g])
  have st3 : Stp [] S (S1 ++ [.lst [g, g]]) := s1 st1'
  generalize S1 ++ [Cell.lst [g, g]] = S3 at e1 st3 ⊢
  have e2 := new_at (S := S3) (.lst [g, g])
  have st4 : Stp [] S (S3 ++ [.lst [g, g]]) := s1 st3
  simp only [r_C, r_V, r_Bin, r_Un, r_Nil, r_Cons, r_Tup, r_Lst, r_Call, r_CB, r_Mt, r_Sl, r_ON, r_OS, r_Rev, r_Dct0, r_Tru, r_Test, r_tAnd, r_tOr, r_tNot, r_tTrue, r_And, r_Or, r_Not, r_If, r_Chain, r_iAny, r_iRg1, g0, g1, g2, g3, g4, g5, t1, t2, t3, t4, t5, st0, bind_ok, wp_bind, wp_ok, ofO_some, rep2 G G e1, l2, if_pos s2, rep2 G G e2]
  generalize S3 ++ [Cell.lst [g, g]] = S4 at st4 ⊢
  simp only [r_C, r_V, r_Bin, r_Un, r_Nil, r_Cons, r_Tup, r_Lst, r_Call, r_CB, r_Mt, r_Sl, r_ON, r_OS, r_Rev, r_Dct0, r_Tru, r_Test, r_tAnd, r_tOr, r_tNot, r_tTrue, r_And, r_Or, r_Not, r_If, r_Chain, r_iAny, r_iRg1, g0, g1, g2, g3, g4, g5, t1, t2, t3, t4, t5, st0, bind_ok, wp_bind, wp_ok, ofO_some, eq_s, decide_true, dTru, if_true, rep2 F W (new_at _), l2, if_pos s2]
  exact ⟨trivial, s1 st4⟩
theorem filled_right_ok {fs : List (List Str)} (hf : Fms fs) (hw : Wd 13 w) : WP (f__law_filled_right [.tup (fs.map tD), tD w] S) fun r S' => r = .bl true ∧ Stp [] S S' := by
  obtain ⟨hfl, hf⟩ := hf
  obtain ⟨y1, y2, y3⟩ := hw
  refine wp_run (ws_seq (ws_for ?_))
  have hs : startE 4 [D.tup (fs.map tD), tD w] = [some (.tup (fs.map tD)), some (tD w), none, none] := rfl
  have s2 : 2 ≤ sizeLine := by decide
  have pick2 : ∀ x y : D, DL.pick [(true, 1), (true, 0)] [] [x, y] = [y, x] := fun x y => rfl
  rw [hs]
  generalize hdw : tD w = dw
  simp only [r_C, r_V, r_Bin, r_Un, r_Nil, r_Cons, r_Tup, r_Lst, r_Call, r_CB, r_Mt, r_Sl, r_ON, r_OS, r_Rev, r_Dct0, r_Tru, r_Test, r_tAnd, r_tOr, r_tNot, r_tTrue, r_And, r_Or, r_Not, r_If, r_Chain, r_iAny, r_iRg1, g0, g1, g2, g3, g4, g5, t1, t2, t3, t4, t5, st0, bind_ok, wp_bind, wp_ok, ofO_some]
  refine ⟨fs.map tD, fun i ρ S' => ∃ o2 o3, ρ = [some (.tup (fs.map tD)), some dw, o2, o3] ∧ Stp [] S S', ⟨none, none, rfl, .refl⟩, ?_, fun i ρ S' _ => at_tup i, ?_, ?_⟩
  · rw [List.length_map]; omega
  · rintro i ρ S' d ⟨o2, o3, rfl, st⟩ hd
    rw [List.getElem?_map] at hd
    obtain ⟨f, ef, rfl⟩ := Option.map_eq_some_iff.mp hd
    obtain ⟨f1, f2, f3⟩ := hf f (List.mem_of_getElem? ef)
    have hfd : ∀ S, WP (f_filled [tD f, dw] S) fun r S' => r = tD (put f w) ∧ S' = S := fun S => hdw ▸ filled_ok f1 (by omega) (by omega)
    have hpt : ∀ S, WP (f__law_put [tD f, dw] S) fun r S' => r = tD (put f w) ∧ Stp [] S S' := fun S => hdw ▸ put_ok (by omega) (by omega)
    have G : Sh (tD (put f w)) (pT (put f w)) := by
      refine sh_tD (Nat.le_trans (put_len f) (Nat.le_trans (Nat.mul_le_mul f2 (show w.length + 1 ≤ 14 by omega)) (by decide))) fun x hx => ?_
      unfold put at hx
      obtain ⟨z, hz, hx⟩ := List.mem_flatMap.mp hx
      split at hx
      · exact y3 x hx
      · rw [List.mem_singleton.mp hx]; exact f3 z hz
    generalize hg : tD (put f w) = g at G hfd hpt
    generalize tD f = df at hfd hpt ⊢
    refine ⟨_, rfl, ws_seq (ws_set ?_)⟩
    simp only [r_C, r_V, r_Bin, r_Un, r_Nil, r_Cons, r_Tup, r_Lst, r_Call, r_CB, r_Mt, r_Sl, r_ON, r_OS, r_Rev, r_Dct0, r_Tru, r_Test, r_tAnd, r_tOr, r_tNot, r_tTrue, r_And, r_Or, r_Not, r_If, r_Chain, r_iAny, r_iRg1, g0, g1, g2, g3, g4, g5, t1, t2, t3, t4, t5, st0, bind_ok, wp_bind, wp_ok, ofO_some, l2, if_true]
    refine (hpt _).mono fun r S2 hh => ?_
    obtain ⟨hr, st2⟩ := hh
    rw [hr]
    have st2 := st.trans st2
    refine ws_if ?_
    simp only [r_C, r_V, r_Bin, r_Un, r_Nil, r_Cons, r_Tup, r_Lst, r_Call, r_CB, r_Mt, r_Sl, r_ON, r_OS, r_Rev, r_Dct0, r_Tru, r_Test, r_tAnd, r_tOr, r_tNot, r_tTrue, r_And, r_Or, r_Not, r_If, r_Chain, r_iAny, r_iRg1, g0, g1, g2, g3, g4, g5, t1, t2, t3, t4, t5, st0, bind_ok, wp_bind, wp_ok, ofO_some, r_CallK, pick2, l2, if_true]
    refine (hfd _).mono fun r S3 hh => ?_
    rw [hh.1, hh.2]
    refine (hfd _).mono fun r' S4 hh => ?_
    rw [hh.1, hh.2]
    clear hh
    have e1 := new_at (S := S2) (.lst [g, g])
    have st3 : Stp [] S (S2 ++ [.lst [g, g]]) := st2.trans .push
    simp only [if_pos s2, wp_ok]
    generalize S2 ++ [Cell.lst [g, g]] = S3 at e1 st3 ⊢
    have e2 := new_at (S := S3) (.lst [g, g])
    have st4 : Stp [] S (S3 ++ [.lst [g, g]]) := st3.trans .push
    have hne : ∀ (a : Str) (S : Sto), dNe (.str a) (.str a) S = some (.bl false, S) := fun a S => by
      have hh := eq_s (S := S) a a
      unfold dEq at hh
      unfold dNe
      cases e : eqD (.str a) (.str a) S with
      | none => rw [e] at hh; cases hh
      | some b =>
        rw [e, decide_eq_true rfl] at hh
        cases b with
        | true => rfl
        | false => cases hh
    simp only [r_C, r_V, r_Bin, r_Un, r_Nil, r_Cons, r_Tup, r_Lst, r_Call, r_CB, r_Mt, r_Sl, r_ON, r_OS, r_Rev, r_Dct0, r_Tru, r_Test, r_tAnd, r_tOr, r_tNot, r_tTrue, r_And, r_Or, r_Not, r_If, r_Chain, r_iAny, r_iRg1, g0, g1, g2, g3, g4, g5, t1, t2, t3, t4, t5, st0, bind_ok, wp_bind, wp_ok, ofO_some, rep2 G G e1, l2, if_pos s2, rep2 G G e2, hne]
    refine ⟨(fun z => nomatch z), fun _ => ws_next ?_⟩
    exact ⟨_, _, rfl, st4⟩
  · rintro ρ S' ⟨o2, o3, rfl, st⟩
    refine ws_ret ?_
    simp only [r_C, wp_ok]
    exact ⟨trivial, st⟩
end
end K3

set_option maxHeartbeats 1000000
namespace K3
open PySem L2 DL
section
variable {S : Sto} {f w : List Str} {h c : Nat} {d : D}
def ncB (x : Str) : Bool := PyData.strOk x && fit (.str x) && decide (x.length ≤ 5) && decide (x ≠ T)
theorem nc_of {x : Str} (e : ncB x = true) : Nc x := by
  unfold ncB at e
  simp only [Bool.and_eq_true, decide_eq_true_eq] at e
  exact ⟨⟨e.1.1.1, e.1.1.2, e.1.2⟩, e.2⟩
theorem NL.new {xs : List Str} (H : Hand h c S) (h0 : xs ≠ []) (h1 : xs.length ≤ 5) (h2 : xs.all ncB = true) : NL h c (S ++ [.lst (xs.map .str)]) S.length xs :=
  ⟨hand_out H, new_at _, h0, h1, fun x hx => nc_of (List.all_eq_true.mp h2 x hx)⟩
def two (S : Sto) (cs gs : List Str) : Sto := (S ++ [Cell.lst (cs.map .str)]) ++ [Cell.lst (gs.map .str)]
theorem two_ok (cs gs : List Str) (h0 : cs ≠ []) (h1 : cs.length ≤ 5) (h2 : cs.all ncB = true) (g0' : gs ≠ []) (g1' : gs.length ≤ 5) (g2' : gs.all ncB = true) (H : Hand h c S) : Nms h c (two S cs gs) (.tup [.ref S.length, .ref (S ++ [Cell.lst (cs.map D.str)]).length]) ∧ Adv h c S (two S cs gs) := by
  have a1 := push_hand (x := .lst (cs.map .str)) H
  have a2 := push_hand (x := .lst (gs.map .str)) a1.1
  exact ⟨⟨_, _, cs, gs, rfl, (NL.new H h0 h1 h2).adv a2, NL.new a1.1 g0' g1' g2'⟩, a1.trans a2⟩
theorem some_ok (H : Hand h c S) {ρ : Ev} : WP (mLst (aCons (mTup (aCons (mLst (aCons (mC (.str "a")) (aCons (mC (.str "ab")) (aNil)))) (aCons (mLst (aCons (mC (.str "t")) (aCons (mC (.str "tt")) (aNil)))) (aNil)))) (aCons (mTup (aCons (mLst (aCons (mC (.str "list")) (aCons (mC (.str "opt")) (aNil)))) (aCons (mLst (aCons (mC (.str "num")) (aCons (mC (.str "truth")) (aNil)))) (aNil)))) (aCons (mTup (aCons (mLst (aCons (mC (.str "c")) (aNil))) (aCons (mLst (aCons (mC (.str "b")) (aNil))) (aNil)))) (aCons (mTup (aCons (mLst (aCons (mC (.str "x")) (aCons (mC (.str "y")) (aCons (mC (.str "z")) (aNil))))) (aCons (mLst (aCons (mC (.str "x")) (aNil))) (aNil)))) (aNil))))) ρ S) fun r S' => ∃ n xs, r = .ref n ∧ S'[n]? = some (.lst xs) ∧ n ∉ [h, c] ∧ xs ≠ [] ∧ xs.length < 1000000 ∧ (∀ x ∈ xs, Nms h c S' x) ∧ Adv h c S S' := by
  simp only [r_C, r_V, r_Bin, r_Un, r_Nil, r_Cons, r_Tup, r_Lst, r_Call, r_CB, r_Mt, r_Sl, r_ON, r_OS, r_Rev, r_Dct0, r_Tru, r_Test, r_tAnd, r_tOr, r_tNot, r_tTrue, r_And, r_Or, r_Not, r_If, r_Chain, r_iAny, r_iRg1, g0, g1, g2, g3, g4, g5, t1, t2, t3, t4, t5, st0, bind_ok, wp_bind, wp_ok, ofO_some, List.length_cons, List.length_nil, Nat.reduceAdd, Nat.zero_add, sizeLine, Nat.reducePow, Nat.reduceLeDiff, if_true]
  obtain ⟨n1, a1⟩ := two_ok ["a", "ab"] ["t", "tt"] (by simp) (by simp) (by decide +kernel) (by simp) (by simp) (by decide +kernel) H
  obtain ⟨n2, a2⟩ := two_ok ["list", "opt"] ["num", "truth"] (by simp) (by simp) (by decide +kernel) (by simp) (by simp) (by decide +kernel) a1.1
  obtain ⟨n3, a3⟩ := two_ok ["c"] ["b"] (by simp) (by simp) (by decide +kernel) (by simp) (by simp) (by decide +kernel) a2.1
  obtain ⟨n4, a4⟩ := two_ok ["x", "y", "z"] ["x"] (by simp) (by simp) (by decide +kernel) (by simp) (by simp) (by decide +kernel) a3.1
  refine ⟨_, _, rfl, new_at _, hand_out a4.1, by simp, by simp, ?_, ((a1.trans a2).trans (a3.trans a4)).trans (push_hand a4.1)⟩
  intro x hx
  simp only [List.mem_cons, List.not_mem_nil, or_false] at hx
  rcases hx with rfl | rfl | rfl | rfl
  · exact n1.adv ((a2.trans (a3.trans a4)).trans (push_hand a4.1))
  · exact n2.adv ((a3.trans a4).trans (push_hand a4.1))
  · exact n3.adv (a4.trans (push_hand a4.1))
  · exact n4.adv (push_hand a4.1)
theorem fms_of : ∀ {xs : List D}, (∀ x ∈ xs, ∃ f, x = tD f ∧ Fm f) → ∃ fs : List (List Str), xs = fs.map tD ∧ ∀ f ∈ fs, Fm f
  | [], _ => ⟨[], rfl, fun z hz => by cases hz⟩
  | x :: xs, hh => by
    obtain ⟨z, rfl, hz⟩ := hh x (List.mem_cons_self ..)
    obtain ⟨zs, rfl, hzs⟩ := fms_of fun x hx => hh x (List.mem_cons_of_mem _ hx)
    refine ⟨z :: zs, rfl, fun y hy => ?_⟩
    rcases List.mem_cons.mp hy with rfl | hy
    · exact hz
    · exact hzs y hy
theorem forms_ok (v : Nms h c S d) (H : Hand h c S) {s o5 o6 o7 o8 o9 o10 o11 o3 x : Option D} : WP (mCB bTuple (aCons (mLc (iRg1 (aCons (mCall 2 f__law_pick (aCons (mVar 1) (aCons (mLst (aCons (mC (.int 0)) (aCons (mC (.int 1)) (aCons (mC (.int 1)) (aCons (mC (.int 2)) (aCons (mC (.int 3)) (aCons (mC (.int 4)) (aNil)))))))) (aNil)))) (aNil))) (.nm 11) (tTrue) (mCall 2 f__law_form (aCons (mVar 1) (aCons (mVar 4) (aNil)))) [11]) (aNil))
    [x, some (.ref h), s, o3, some d, o5, o6, o7, o8, o9, o10, o11] S) fun r S' => (∃ fs, r = .tup (fs.map tD) ∧ Fms fs) ∧ Adv h c S S' := by
  simp only [r_CB, r_Cons, r_Nil, r_Lc, r_iRg1, r_Call, r_V, r_Lst, r_C, g0, g1, bind_ok, wp_bind, wp_ok, List.length_cons, List.length_nil, Nat.reduceAdd, Nat.zero_add, sizeLine, Nat.reducePow, Nat.reduceLeDiff, if_true]
  refine (pick_new H (by simp) (by simp)).mono fun r S1 hh => ?_
  obtain ⟨hr, av⟩ := hh
  obtain ⟨j, rfl, j0, j1⟩ : ∃ j : Int, r = .int j ∧ 0 ≤ j ∧ j ≤ 4 := by
    simp only [List.mem_cons, List.not_mem_nil, or_false] at hr
    rcases hr with rfl | rfl | rfl | rfl | rfl | rfl <;> exact ⟨_, rfl, by decide, by decide⟩
  have hin := inR_int j0 (show j ≤ 1000 by omega)
  simp only [if_pos hin, wp_ok]
  have hj : j.toNat ≤ 4 := by omega
  generalize j.toNat = m at hj ⊢
  have body : ∀ (S' : Sto) (k : Nat), Adv h c S1 S' → ∃ ρ1, (Tg.nm 11).put (.int (0 + (k : Int))) (wipeE [x, some (.ref h), s, o3, some d, o5, o6, o7, o8, o9, o10, o11] [11]) = some ρ1 ∧ WP (mCall 2 f__law_form (aCons (mVar 1) (aCons (mVar 4) (aNil))) ρ1 S') fun r S2 => (∃ f, r = tD f ∧ Fm f) ∧ Adv h c S' S2 := fun S' k av2 => by
    refine ⟨[x, some (.ref h), s, o3, some d, o5, o6, o7, o8, o9, o10, some (.int (0 + (k : Int)))], rfl, ?_⟩
    simp only [r_C, r_V, r_Bin, r_Un, r_Nil, r_Cons, r_Tup, r_Lst, r_Call, r_CB, r_Mt, r_Sl, r_ON, r_OS, r_Rev, r_Dct0, r_Tru, r_Test, r_tAnd, r_tOr, r_tNot, r_tTrue, r_And, r_Or, r_Not, r_If, r_Chain, r_iAny, r_iRg1, g0, g1, g2, g3, g4, g5, t1, t2, t3, t4, t5, st0, bind_ok, wp_bind, wp_ok, ofO_some, l2, if_true]
    exact form_ok (v.adv (av.trans av2)) av2.1
  refine (lc_draw (P := fun d => ∃ f, d = tD f ∧ Fm f) av.1 (show m ≤ 1000 by omega) body).mono ?_
  rintro r S2 ⟨xs, rfl, ea, hl, hp, av2⟩
  obtain ⟨fs, rfl, hfs⟩ := fms_of hp
  simp only [tuple_lst ea, ofO_some, wp_ok]
  rw [List.length_map] at hl
  exact ⟨⟨fs, rfl, by omega, hfs⟩, av.trans av2⟩
/-- [_law_put(form, word) for form in forms] -/
theorem puts2_ok {fs : List (List Str)} {ρ : Ev} {dw : D} (hdw : dw = tD w) (hfs : fs.length ≤ 100) (hf : ∀ f ∈ fs, f.length ≤ 100) (hw : w.length ≤ 100) (e0 : ρ[5]? = some (some (.tup (fs.map tD)))) (e2 : (wipeE ρ [10])[6]? = some (some dw)) (e4 : 10 < ρ.length) :
    WP (mLc (iAny (mVar 5)) (.nm 10) (tTrue) (mCall 2 f__law_put (aCons (mVar 10) (aCons (mVar 6) (aNil)))) [10] ρ S) fun r S' => ∃ a, r = .ref a ∧ S'[a]? = some (.lst ((fs.map fun f => put f w).map tD)) ∧ Stp [] S S' ∧ S.length ≤ a := by
  refine (wp_lc (fs.map tD) (fun _ => true) (fun d => tD (put (dec d) w)) (.tup (fs.map tD)) ?_ (fun _ _ i => at_tup i) (by rw [List.length_map]; omega) ?_).mono ?_
  · simp only [r_iAny, r_V, e0, bind_ok, wp_ok]
    exact ⟨trivial, .refl⟩
  · intro d hd
    obtain ⟨f, hf', rfl⟩ := List.mem_map.mp hd
    refine ⟨_, rfl, fun S' st => ?_⟩
    have g4' : ((wipeE ρ [10]).set 10 (some (tD f)))[10]? = some (some (tD f)) := List.getElem?_set_self (by rw [wipeE_len]; exact e4)
    have g2' : ((wipeE ρ [10]).set 10 (some (tD f)))[6]? = some (some dw) := by rw [List.getElem?_set_ne (by decide)]; exact e2
    simp only [r_tTrue, wp_ok, true_and, forall_const]
    refine ⟨.refl, ?_⟩
    simp only [r_C, r_V, r_Bin, r_Un, r_Nil, r_Cons, r_Tup, r_Lst, r_Call, r_CB, r_Mt, r_Sl, r_ON, r_OS, r_Rev, r_Dct0, r_Tru, r_Test, r_tAnd, r_tOr, r_tNot, r_tTrue, r_And, r_Or, r_Not, r_If, r_Chain, r_iAny, r_iRg1, g0, g1, g2, g3, g4, g5, t1, t2, t3, t4, t5, st0, bind_ok, wp_bind, wp_ok, ofO_some, g4', g2', hdw, l2, if_true]
    refine (put_ok (hf f hf') hw).mono fun r S2 hh => ?_
    rw [dec_tD]
    exact hh
  · rintro r S' ⟨a, rfl, ea, st, hl⟩
    refine ⟨a, rfl, ?_, st, hl⟩
    rw [ea, List.filter_eq_self.mpr fun _ _ => rfl, List.map_map, List.map_map]
    congr 2
    apply List.map_congr_left
    intro f _
    show tD (put (dec (tD f)) w) = _
    rw [dec_tD]; rfl
theorem put_wd (hf : Fm f) (hw : Wd 13 w) : Wd 84 (put f w) := by
  obtain ⟨⟨i, l, rfl, hi⟩, f2, f3⟩ := hf
  obtain ⟨y1, y2, y3⟩ := hw
  refine ⟨fun z => ?_, Nat.le_trans (put_len _) (Nat.le_trans (Nat.mul_le_mul f2 (show w.length + 1 ≤ 14 by omega)) (by decide)), fun x hx => ?_⟩
  · unfold put at z
    rw [List.flatMap_append] at z
    have := (List.append_eq_nil_iff.mp z).2
    simp only [List.flatMap_cons, List.flatMap_nil, List.append_nil] at this
    split at this
    · exact y1 this
    · cases this
  · unfold put at hx
    obtain ⟨z, hz, hx⟩ := List.mem_flatMap.mp hx
    split at hx
    · exact y3 x hx
    · rw [List.mem_singleton.mp hx]; exact f3 z hz
end
end K3

set_option maxHeartbeats 1000000
namespace K3
open PySem L2 DL
section
variable {S : Sto} {f w : List Str} {h c : Nat} {d : D}
theorem atI_of {α : Type} {xs : List α} {j : Nat} {x : α} (e : xs[j]? = some x) : atI xs (j : Int) = some x := by
  have hj : j < xs.length := (List.getElem?_eq_some_iff.mp e).1
  unfold atI ixN
  rw [if_pos (by omega), if_pos (by omega), Option.bind_some, Int.toNat_natCast]
  exact e
theorem set_at {a j : Nat} {xs : List D} {v : D} (e : S[a]? = some (.lst xs)) (hj : j < xs.length) : dSet (.ref a) (.int (j : Int)) v S = some (S.set a (.lst (xs.set j v))) := by
  have : ixN xs.length (j : Int) = some j := by
    unfold ixN
    rw [if_pos (by omega), if_pos (by omega), Int.toNat_natCast]
  unfold dSet
  simp only [e, this, Option.map_some]
theorem wd_up {n m : Nat} (hw : Wd n w) (h : n ≤ m) : Wd m w := ⟨hw.1, Nat.le_trans hw.2.1 h, hw.2.2⟩
abbrev mChange : SM := (sSeq (sSet 9 (mCall 2 f__law_draw (aCons (mVar 1) (aCons (mCB bLen (aCons (mVar 7) (aNil))) (aNil)))))
    (sSeq (sSub (mVar 7) (mVar 9) (mCall 3 f__law_bent (aCons (mVar 1) (aCons (mVar 4) (aCons (mBin dIx (mVar 7) (mVar 9)) (aNil))))))
    (sIf (tAnd' (mTest (mBin dGt (mCB bLen (aCons (mBin dIx (mVar 5) (mVar 9)) (aNil))) (mC (.int 1)))) (mTest (mBin dEq (mCall 2 f__law_draw (aCons (mVar 1) (aCons (mC (.int 4)) (aNil)))) (mC (.int 0))))) (sSub (mVar 7) (mVar 9) (mSl (mBin dIx (mVar 5) (mVar 9)) (oNone) (oSome (mUn dNeg (mC (.int 1)))))) (sNext))))
theorem change_ok {Sb : Sto} {fs ws : List (List Str)} {a n : Nat} {x0 s o3 o6 o8 o9 o10 o11 : Option D} {Q : Post} (v : Nms h c S d) (av : Adv h c Sb S) (ea : S[a]? = some (.lst (ws.map tD))) (ha : Sb.length ≤ a) (ho : a ∉ [h, c]) (hl : ws.length = fs.length) (hne : fs ≠ []) (hf : Fms fs) (hw : Wds n ws) (hn : n ≤ 90)
    (q : ∀ o9 S' ws', S'[a]? = some (.lst (ws'.map tD)) → ws'.length = fs.length → Wds (n + 6) ws' → Nms h c S' d → Adv h c Sb S' → Q.nx [x0, some (.ref h), s, o3, some d, some (.tup (fs.map tD)), o6, some (.ref a), o8, o9, o10, o11] S') :
    WS (mChange [x0, some (.ref h), s, o3, some d, some (.tup (fs.map tD)), o6, some (.ref a), o8, o9, o10, o11] S) Q := by
  have hp : 0 < fs.length := List.length_pos_iff.mpr hne
  have hll : (ws.map tD).length = ws.length := List.length_map ..
  have h100 := hf.1
  refine ws_seq (ws_set ?_)
  simp only [r_Call, r_Cons, r_Nil, r_CB, r_V, g0, g1, List.getElem?_cons_succ, List.getElem?_cons_zero, bind_ok, len_lst ea, ofO_some, l2, if_true]
  refine (draw av.1 (by omega) (by omega)).mono fun r S1 hh => ?_
  obtain ⟨i', rfl, i0, i1, av1⟩ := hh
  obtain ⟨i, rfl⟩ := Int.eq_ofNat_of_zero_le i0
  have hi : i < ws.length := by omega
  have ea1 := av1.2.at_ ho ea
  have v1 := v.adv av1
  have av1 := av.trans av1
  obtain ⟨wi, ewi⟩ : ∃ wi, ws[i]? = some wi := ⟨_, List.getElem?_eq_getElem hi⟩
  obtain ⟨fi, efi⟩ : ∃ fi, fs[i]? = some fi := ⟨_, List.getElem?_eq_getElem (by omega)⟩
  have e1 : dIx (.ref a) (.int (i : Int)) S1 = some (tD wi, S1) := ix_lst ea1 (atI_of (by rw [List.getElem?_map, ewi]; rfl))
  have e2 : ∀ S : Sto, dIx (.tup (fs.map tD)) (.int (i : Int)) S = some (tD fi, S) := fun S => by
    unfold dIx
    simp only [atI_of (xs := fs.map tD) (j := i) (x := tD fi) (by rw [List.getElem?_map, efi]; rfl), Option.map_some]
  have hwi := hw wi (List.mem_of_getElem? ewi)
  have hfi := hf.2 fi (List.mem_of_getElem? efi)
  have upd : ∀ (S' : Sto) (xs : List (List Str)) (w' : List Str), S'[a]? = some (.lst (xs.map tD)) → xs.length = fs.length → Wds (n + 6) xs → Wd (n + 6) w' → Adv h c Sb S' → Nms h c S' d →
      dSet (.ref a) (.int (i : Int)) (tD w') S' = some (S'.set a (.lst ((xs.set i w').map tD))) ∧ (S'.set a (.lst ((xs.set i w').map tD)))[a]? = some (.lst ((xs.set i w').map tD)) ∧ (xs.set i w').length = fs.length ∧ Wds (n + 6) (xs.set i w') ∧ Adv h c Sb (S'.set a (.lst ((xs.set i w').map tD))) ∧ Nms h c (S'.set a (.lst ((xs.set i w').map tD))) d := fun S' xs w' e hx hd hw' a' v' => by
    have hal := (List.getElem?_eq_some_iff.mp e).1
    refine ⟨?_, ?_, by simpa using hx, ?_, hand_new a' ho ha, ?_⟩
    · rw [set_at e (by rw [List.length_map]; omega), ← List.map_set]
    · rw [List.getElem?_set_self hal]
    · intro y hy
      rcases List.mem_or_eq_of_mem_set hy with hy | rfl
      · exact hd y hy
      · exact hw'
    · obtain ⟨n1, n2, cs, gs, rfl, y1, y2⟩ := v'
      have ne : ∀ {m xs}, NL h c S' m xs → a ≠ m := fun {m zs} y z => by
        subst z
        have := y.e
        rw [e] at this
        have e3 := Option.some.inj this
        injection e3 with e3
        have hz := y.z
        cases zs with
        | nil => exact hz rfl
        | cons z zs =>
          cases xs with
          | nil => simp at hx; omega
          | cons x xs => simp [tD] at e3
      have mv : ∀ {m zs} (x : Cell), NL h c S' m zs → NL h c (S'.set a x) m zs := fun {m zs} x y => ⟨y.o, by rw [List.getElem?_set_ne (ne y)]; exact y.e, y.z, y.l, y.m⟩
      exact ⟨n1, n2, cs, gs, rfl, mv _ y1, mv _ y2⟩
  have up : Wds (n + 6) ws := fun y hy => wd_up (hw y hy) (by omega)
  refine ws_seq (ws_sub ?_)
  simp only [r_Call, r_Cons, r_Nil, r_CB, r_Bin, r_V, List.getElem?_cons_succ, List.getElem?_cons_zero, List.set_cons_succ, List.set_cons_zero, bind_ok, e1, ofO_some, l3, if_true]
  refine (bent_ok v1 av1.1 hwi hn).mono fun r S2 hh => ?_
  obtain ⟨⟨w', rfl, hw'⟩, av2⟩ := hh
  have ea2 := av2.2.at_ ho ea1
  have v2 := v1.adv av2
  have av2 := av1.trans av2
  obtain ⟨u1, u2, u3, u4, u5, u6⟩ := upd S2 ws w' ea2 hl up hw' av2 v2
  simp only [wp_ok, u1]
  refine ⟨_, rfl, ?_⟩
  generalize S2.set a (Cell.lst ((ws.set i w').map tD)) = S3 at u1 u2 u5 u6 ⊢
  generalize ws.set i w' = ws3 at u1 u2 u3 u4 ⊢
  refine ws_if ?_
  simp only [r_tAnd, r_Test, r_Call, r_Cons, r_Nil, r_CB, r_Bin, r_V, r_C, List.getElem?_cons_succ, List.getElem?_cons_zero, bind_ok, e2, ofO_some, len_tD, gt_i]
  by_cases h1 : (1 : Int) < fi.length
  · simp only [decide_eq_true h1, if_true, r_Call, r_Cons, r_Nil, r_V, r_C, bind_ok, l2, wp_bind, List.getElem?_cons_succ, List.getElem?_cons_zero]
    refine (draw u5.1 (by decide) (by decide)).mono fun r S4 hh => ?_
    obtain ⟨j, rfl, j0, j1, av4⟩ := hh
    have ea4 := av4.2.at_ ho u2
    have v4 := u6.adv av4
    have av4 := u5.trans av4
    simp only [r_C, bind_ok, eq_i, ofO_some, wp_ok]
    refine ⟨fun _ => ws_sub ?_, fun _ => ws_next (q _ _ _ ea4 u3 u4 v4 av4)⟩
    obtain ⟨⟨y, l, rfl, hy⟩, f2, f3⟩ := hfi
    have hwd : Wd (n + 6) y := by
      rw [List.length_append] at h1 f2
      simp at h1 f2
      exact ⟨fun z => by subst z; simp at h1, by omega, fun x hx => f3 x (List.mem_append_left _ hx)⟩
    obtain ⟨u1, u2, u3, u4, u5, u6⟩ := upd S4 ws3 y ea4 u3 u4 hwd av4 v4
    simp only [r_Sl, r_ON, r_OS, r_Un, r_Bin, r_V, r_C, List.getElem?_cons_succ, List.getElem?_cons_zero, bind_ok, e2, neg1, ofO_some, sl_inits, wp_ok, u1]
    exact ⟨_, rfl, q _ _ _ u2 u3 u4 u6 u5⟩
  · simp only [decide_eq_false h1, Bool.false_eq_true, if_false, wp_ok]
    exact ⟨(fun z => nomatch z), fun _ => ws_next (q _ _ _ u2 u3 u4 u6 u5)⟩
end
theorem ans (ns : List Int) (hn : ns.length ≤ 63) : ∃ S', f_law [.ref 0] [.fz (ns.map D.int)] = .ok (.bl true) S' := by
  have main : WP (f_law [.ref 0] [.fz (ns.map D.int)]) fun r _ => r = .bl true := by
    refine wp_run (ws_seq (ws_set ?_))
    have hs : startE 12 [D.ref 0] = [some (.ref 0), none, none, none, none, none, none, none, none, none, none, none] := rfl
    rw [hs]
    simp only [r_C, r_V, r_Bin, r_Un, r_Nil, r_Cons, r_Tup, r_Lst, r_Call, r_CB, r_Mt, r_Sl, r_ON, r_OS, r_Rev, r_Dct0, r_Tru, r_Test, r_tAnd, r_tOr, r_tNot, r_tTrue, r_And, r_Or, r_Not, r_If, r_Chain, r_iAny, r_iRg1, g0, g1, g2, g3, g4, g5, t1, t2, t3, t4, t5, st0, bind_ok, wp_bind, wp_ok, ofO_some, List.length_cons, List.length_nil, Nat.reduceAdd, Nat.zero_add, sizeLine, Nat.reducePow, Nat.reduceLeDiff, if_true]
    refine (hand_ok (b0 := 98503) (b1 := 40014) (b2 := 2147483549) (b3 := 23) (b4 := 2147483563) (by decide) hn).mono fun r S1 hh => ?_
    obtain ⟨h, c, rfl, H⟩ := hh
    refine ws_seq (ws_set ?_)
    refine (some_ok H).mono fun r S2 hh => ?_
    obtain ⟨n, xs, rfl, en, hno, hx0, hxl, hxs, av0⟩ := hh
    refine ws_seq (ws_for ?_)
    have i20 : inR 20 = true := by decide
    simp only [r_C, r_V, r_Bin, r_Un, r_Nil, r_Cons, r_Tup, r_Lst, r_Call, r_CB, r_Mt, r_Sl, r_ON, r_OS, r_Rev, r_Dct0, r_Tru, r_Test, r_tAnd, r_tOr, r_tNot, r_tTrue, r_And, r_Or, r_Not, r_If, r_Chain, r_iAny, r_iRg1, g0, g1, g2, g3, g4, g5, t1, t2, t3, t4, t5, st0, bind_ok, wp_bind, wp_ok, ofO_some, List.length_cons, List.length_nil, Nat.reduceAdd, Nat.zero_add, sizeLine, Nat.reducePow, Nat.reduceLeDiff, if_true, if_pos i20]
    refine ⟨_, fun i ρ S' => ∃ o3 o4 o5 o6 o7 o8 o9 o10 o11, ρ = [some (.ref 0), some (.ref h), some (.ref n), o3, o4, o5, o6, o7, o8, o9, o10, o11] ∧ Adv h c S2 S', ⟨_, _, _, _, _, _, _, _, _, rfl, .refl av0.1⟩, ?_, fun i ρ S' _ => at_rng i, ?_, ?_⟩
    · simp
    · rintro i ρ S' dd ⟨o3, o4, o5, o6, o7, o8, o9, o10, o11, rfl, av⟩ hd
      refine ⟨_, rfl, ws_seq (ws_set ?_)⟩
      simp only [r_C, r_V, r_Bin, r_Un, r_Nil, r_Cons, r_Tup, r_Lst, r_Call, r_CB, r_Mt, r_Sl, r_ON, r_OS, r_Rev, r_Dct0, r_Tru, r_Test, r_tAnd, r_tOr, r_tNot, r_tTrue, r_And, r_Or, r_Not, r_If, r_Chain, r_iAny, r_iRg1, g0, g1, g2, g3, g4, g5, t1, t2, t3, t4, t5, st0, bind_ok, wp_bind, wp_ok, ofO_some, List.length_cons, List.length_nil, Nat.reduceAdd, Nat.zero_add, sizeLine, Nat.reducePow, Nat.reduceLeDiff, if_true]
      refine (pick_ok av.1 (av.2.at_ hno en) hno hx0 hxl).mono fun d S3 hh => ?_
      obtain ⟨hd, av3⟩ := hh
      have v3 := (hxs d hd).adv (av.trans av3)
      have av3 := av.trans av3
      refine ws_seq (ws_set ((forms_ok v3 av3.1).mono fun r S4 hh => ?_))
      obtain ⟨⟨fs, rfl, hf⟩, av4⟩ := hh
      have v4 := v3.adv av4
      have av4 := av3.trans av4
      refine ws_seq (ws_set ?_)
      simp only [r_Call, r_Cons, r_Nil, r_V, r_C, List.getElem?_cons_succ, List.getElem?_cons_zero, List.set_cons_succ, List.set_cons_zero, bind_ok, l3, if_true]
      refine (word_ok v4 av4.1 (m := 11) (by decide)).mono fun r S5 hh => ?_
      obtain ⟨⟨iw, lw, rfl, hiw, hpw⟩, av5⟩ := hh
      have v5 := v4.adv av5
      have av5 := av4.trans av5
      have hW : Wd 13 (iw ++ [lw]) := ⟨by simp, by simp; omega, fun x hx => (hpw x hx).1⟩
      generalize iw ++ [lw] = w at hW ⊢
      clear hpw hiw
      have hfl : ∀ f ∈ fs, f.length ≤ 100 := fun f hf' => by have := (hf.2 f hf').2.1; omega
      refine ws_seq (ws_set ((puts2_ok rfl hf.1 hfl (by have := hW.2.1; omega) rfl rfl (by simp)).mono fun r S6 hh => ?_))
      obtain ⟨a, rfl, ea, st6, ha⟩ := hh
      have ho : a ∉ [h, c] := by
        have := av5.1.lt
        simp only [List.mem_cons, List.not_mem_nil, or_false, not_or]
        omega
      have av56 := av5.1.stp st6
      have v6 := v5.adv av56
      refine ws_seq (ws_for ?_)
      have hmul : ∀ (i : Int) (b : Bool) (S : Sto), cMul i (PyProof.Rows.b2i b) = true := fun i b S => by
        unfold cMul; cases b <;> simp [PyProof.Rows.b2i]
      simp only [r_iRg1, r_Bin, r_Call, r_Cons, r_Nil, r_CB, r_Lst, r_V, r_C, List.getElem?_cons_succ, List.getElem?_cons_zero, List.set_cons_succ, List.set_cons_zero, bind_ok, l2, if_true, wp_bind]
      refine (draw av56.1 (by decide) (by decide)).mono fun r S7 hh => ?_
      obtain ⟨j, rfl, j0, j1, av7⟩ := hh
      have ea7 := av7.2.at_ ho ea
      have v7 := v6.adv av7
      have zl : ([] : List D).length ≤ sizeLine := Nat.zero_le _
      have hnn := ne_nil (old_at (.lst []) ea7) (new_at (S := S7) (.lst []))
      have hbi : ∀ b S, bInt [.bl b] S = some (.int (PyProof.Rows.b2i b), S) := fun b S => rfl
      have hdm : ∀ b S, dMul (.int j) (.int (PyProof.Rows.b2i b)) S = some (.int (j * PyProof.Rows.b2i b), S) := fun b S => d_mul _ _ _ (hmul j b S)
      simp only [if_pos zl, bind_ok, hnn, ofO_some, hbi, hdm, wp_ok]
      obtain ⟨m, hm1, hm2, hm3⟩ : ∃ m : Nat, j * PyProof.Rows.b2i (!(List.map tD (fs.map fun f => put f w)).isEmpty) = (m : Int) ∧ m ≤ 2 ∧ (0 < m → fs ≠ []) := by
        cases fs with
        | nil => exact ⟨0, by simp [PyProof.Rows.b2i], by omega, fun z => by omega⟩
        | cons f fs =>
          refine ⟨j.toNat, ?_, by omega, fun _ => by simp⟩
          simp [PyProof.Rows.b2i]
          omega
      rw [hm1]
      have hin : inR (m : Int) = true := inR_int (by omega) (by omega)
      have av8 : Adv h c S5 (S7 ++ [.lst []]) := (av56.trans av7).trans (push_hand av7.1)
      have v8 : Nms h c (S7 ++ [.lst []]) d := v7.adv (push_hand av7.1)
      have ea8 := old_at (.lst []) ea7
      generalize S7 ++ [Cell.lst []] = S8 at av8 v8 ea8 ⊢
      simp only [if_pos hin, wp_ok, Int.toNat_natCast]
      refine ⟨_, fun i ρ S' => ∃ o8 o9 ws, ρ = [some (.ref 0), some (.ref h), some (.ref n), some dd, some d, some (.tup (fs.map tD)), some (tD w), some (.ref a), o8, o9, o10, o11] ∧ S'[a]? = some (.lst (ws.map tD)) ∧ ws.length = fs.length ∧ Wds (84 + 6 * i) ws ∧ Nms h c S' d ∧ Adv h c S5 S', ⟨_, _, _, rfl, ea8, by simp, ?_, v8, av8⟩, ?_, fun i ρ S' _ => at_rng i, ?_, ?_⟩
      · intro y hy
        obtain ⟨f, hf', rfl⟩ := List.mem_map.mp hy
        exact put_wd (hf.2 f hf') hW
      · simp; omega
      · rintro i ρ S' dd ⟨o8, o9, ws, rfl, e9, hl, hws, v9, av9⟩ hd
        have hi : i < m := by simpa using (List.getElem?_eq_some_iff.mp hd).1
        refine ⟨_, rfl, change_ok v9 av9 e9 ha ho hl (hm3 (by omega)) hf hws (by omega) fun o9 S' ws' e hl hw v av => ?_⟩
        exact ⟨_, _, _, rfl, e, hl, by rw [show 84 + 6 * (i + 1) = 84 + 6 * i + 6 by omega]; exact hw, v, av⟩
      · rintro ρ S' ⟨o8, o9, ws, rfl, e9, hl, hws, v9, av9⟩
        have hws : Wds 100 ws := fun y hy => wd_up (hws y hy) (by simp; omega)
        refine ws_if ?_
        simp only [r_tOr, r_tNot, r_Tru, r_Call, r_Cons, r_Nil, r_CB, r_V, List.getElem?_cons_succ, List.getElem?_cons_zero, bind_ok, tuple_lst e9, ofO_some, l2, if_true, wp_bind]
        refine (fitted_right_ok hl.symm hf hws).mono fun r S10 hh => ?_
        obtain ⟨rfl, st10⟩ := hh
        simp only [dTru, wp_ok, bind_ok, Bool.not_true, Bool.false_eq_true, if_false, r_tNot, r_Tru, r_Call, r_Cons, r_Nil, r_V, List.getElem?_cons_succ, List.getElem?_cons_zero, l2, if_true, wp_bind]
        refine (filled_right_ok hf hW).mono fun r S11 hh => ?_
        obtain ⟨rfl, st11⟩ := hh
        simp only [dTru, wp_ok, Bool.not_true]
        refine ⟨(fun z => nomatch z), fun _ => ws_next ?_⟩
        exact ⟨_, _, _, _, _, _, _, _, _, rfl, (av5.trans av9).trans (av9.1.stp (st10.trans st11))⟩
    · rintro ρ S' ⟨o3, o4, o5, o6, o7, o8, o9, o10, o11, rfl, av⟩
      refine ws_ret ?_
      simp only [r_C, wp_ok]
  obtain ⟨r, S', e, rfl⟩ := main.elim
  exact ⟨S', e⟩
end K3

open PySem PySem.W PyProof.Rows
set_option maxRecDepth 100000 in
set_option maxHeartbeats 0 in
theorem PySem.Challenge.cw_sparewright_k03_kinds_put_in_and_fitted_holds : PySem.Challenge.rw_sparewright_k03_kinds_put_in_and_fitted.Holds := by
  w_on; o_law; k_head; (case hw => w_witness2)
  k_fill
  refine DL.law_end (l := PySem.Challenge.rw_sparewright_k03_kinds_put_in_and_fitted) (k := 5) (x := "script") rfl rfl (by decide) (by decide) (fun w h Y => PySem.W.kIn_of Y) ?imp ?nsys ?F
  case imp => first | rfl | decide +kernel
  case nsys =>
    intro w
    exact rfl
  case F =>
    intro w mg fa h KX G hmg
    refine' K3.law_F (h := h) (K3.tops_mk KX G ?yS ?z_int ?z_isinstance ?z_len ?z_list ?z_range ?z_repr ?z_str ?z_tuple ?z_zip ?g_HOLE ?a0 ?l0 ?c0 ?k0 ?a1 ?l1 ?c1 ?k1 ?a2 ?l2 ?c2 ?k2 ?a3 ?l3 ?c3 ?k3 ?a4 ?l4 ?c4 ?k4 ?a5 ?l5 ?c5 ?k5 ?a6 ?l6 ?c6 ?k6 ?a7 ?l7 ?c7 ?k7 ?a8 ?l8 ?c8 ?k8 ?a9 ?l9 ?c9 ?k9 ?a10 ?l10 ?c10 ?k10 ?a11 ?l11 ?c11 ?k11 ?a12 ?l12 ?c12 ?k12 ?a13 ?l13 ?c13 ?k13 ?a14 ?l14 ?c14 ?k14) hmg K3.ans
    (case yS => exact rfl); (case z_int => k_is); (case z_isinstance => k_is); (case z_len => k_is); (case z_list => k_is); (case z_range => k_is); (case z_repr => k_is); (case z_str => k_is); (case z_tuple => k_is); (case z_zip => k_is); (case g_HOLE => k_is); (case a0 => k_is); (case l0 => k_is); (case c0 => k_is); (case k0 => k_is); (case a1 => k_is); (case l1 => k_is); (case c1 => k_is); (case k1 => k_is); (case a2 => k_is); (case l2 => k_is); (case c2 => k_is); (case k2 => k_is); (case a3 => k_is); (case l3 => k_is); (case c3 => k_is); (case k3 => k_is); (case a4 => k_is); (case l4 => k_is); (case c4 => k_is); (case k4 => k_is); (case a5 => k_is); (case l5 => k_is); (case c5 => k_is); (case k5 => k_is); (case a6 => k_is); (case l6 => k_is); (case c6 => k_is); (case k6 => k_is); (case a7 => k_is); (case l7 => k_is); (case c7 => k_is); (case k7 => k_is); (case a8 => k_is); (case l8 => k_is); (case c8 => k_is); (case k8 => k_is); (case a9 => k_is); (case l9 => k_is); (case c9 => k_is); (case k9 => k_is); (case a10 => k_is); (case l10 => k_is); (case c10 => k_is); (case k10 => k_is); (case a11 => k_is); (case l11 => k_is); (case c11 => k_is); (case k11 => k_is); (case a12 => k_is); (case l12 => k_is); (case c12 => k_is); (case k12 => k_is); (case a13 => k_is); (case l13 => k_is); (case c13 => k_is); (case k13 => k_is); (case a14 => k_is); (case l14 => k_is); (case c14 => k_is); (case k14 => k_is)
