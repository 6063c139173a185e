import PyProof.Rows.All
import Wide.All
import OpenK.AllK
import Wide.FinOn
import HandS.ForMost
import HandS.Exc
import HandS.ExcOwn
import HandS.TryOnly
import HandS.WordsExc
import HandS.IsInst
import HandS.Wide
import HandS.Gcd
import HandS.Flow
import HandS.Style
import HandS.TupLe
import HandS.TupAny
import HandS.Deep
import HandS.Conv
import HandS.WideBits
import HandS.SortOrd
import HandS.Sort
import HandS.SortRule
import HandS.RaiseMore
import KE.DataMinMax
import PyProof.ReprRoads
import HandS.SortInts
import HandS.EndBits
import HandS.EndTab
import KE.IntBitsLaws
import PySem.Challenge.RW_anyserve_k01_rules_and_other_values
set_option Elab.async false
set_option linter.all false
set_option maxRecDepth 100000
set_option maxHeartbeats 2000000
/-! A data layer over the hand layer: what expressions and statements compute, as partial functions of plain data. -/
namespace DL
open PySem PySem.Spec PyProof.Rows L2

/-- plain data; kls: a list that is only read (the script, a module's constant); cel: a list that may change, by its number in the store -/
inductive D where
  | non
  | bl (b : Bool)
  | int (i : Int)
  | str (x : Str)
  | lst (xs : List D)
  | kls (xs : List D)
  | tup (xs : List D)
  | dct (xs : List (D × D))
  | cel (i : Nat)
  | fn (f : Addr)

/-- a list that may change: open, locked while it is walked, or gone (it is data from then on) -/
inductive CO where
  | lst (xs : List D)
  | lk (xs : List D)
  | gone
abbrev Sto := List CO
abbrev Env := List (Option D)
def CO.live : CO → Bool
  | .gone => false
  | _ => true

/-- what a run comes to -/
inductive Res (α : Type) where
  | ok (a : α) (S : Sto)
  | err (c : Str) (d : D) (S : Sto)
  | bad
def Res.bind {α β : Type} (x : Res α) (f : α → Sto → Res β) : Res β := match x with
  | .ok a S => f a S
  | .err c d S => .err c d S
  | .bad => .bad
@[simp] theorem Res.bind_ok {α β : Type} (a : α) (S : Sto) (f : α → Sto → Res β) : (Res.ok a S).bind f = f a S := rfl
@[simp] theorem Res.bind_err {α β : Type} (c : Str) (d : D) (S : Sto) (f : α → Sto → Res β) : (Res.err c d S : Res α).bind f = .err c d S := rfl
@[simp] theorem Res.bind_bad {α β : Type} (f : α → Sto → Res β) : (Res.bad : Res α).bind f = .bad := rfl

/-- the heap without the lists that may change -/
def cut (A Z : List Addr) (S : Sto) (H : Hp) : Hp := fun b => if (Z.contains b || (A.zip S).any (fun p => p.2.live && p.1 == b)) = true then none else H b

section
variable (A : List Addr) (G : Hp) (K : PySem.W.Frag)
mutual
inductive DR : V → D → Prop
  | non : DR .non .non
  | bl (b : Bool) : DR (.bl b) (.bl b)
  | int (i : Int) : DR (.int i) (.int i)
  | str (x : Str) : DR (.str x) (.str x)
  | lst {a : Addr} {vs : List V} {ds : List D} : G a = some (.lst vs) → DRs vs ds → DR (.ref a) (.lst ds)
  | kls {a : Addr} {vs : List V} {ds : List D} : SqL K G a vs → DRs vs ds → DR (.ref a) (.kls ds)
  | tup {a : Addr} {vs : List V} {ds : List D} : SqT K G a vs → DRs vs ds → DR (.ref a) (.tup ds)
  | dct0 {a : Addr} : G a = some (.dK []) → DR (.ref a) (.dct [])
  | cel {a : Addr} {i : Nat} : A[i]? = some a → DR (.ref a) (.cel i)
  | fn (f : Addr) : DR (.ref f) (.fn f)
inductive DRs : List V → List D → Prop
  | nil : DRs [] []
  | cons {v : V} {vs : List V} {d : D} {ds : List D} : DR v d → DRs vs ds → DRs (v :: vs) (d :: ds)
end
end
section
variable {A A' : List Addr} {G G' : Hp} {K : PySem.W.Frag}
theorem DRs.length {vs : List V} {ds : List D} (h : DRs A G K vs ds) : vs.length = ds.length := by
  induction ds generalizing vs with
  | nil => cases h; rfl
  | cons d ds ih =>
    cases h with
    | cons h1 h2 => simp [ih h2]
theorem rd_mono {a : Addr} {u : HO} (e : ∀ b o, G b = some o → G' b = some o) (h : Rd G a u) : Rd G' a u := by
  rcases h with h | ⟨o, h⟩
  · exact .inl (e _ _ h)
  · exact .inr ⟨o, e _ _ h⟩
theorem sql_mono {a : Addr} {xs : List V} (e : ∀ b o, G b = some o → G' b = some o) (h : SqL K G a xs) : SqL K G' a xs := by
  rcases h with h | h
  · exact .inl (rd_mono e h)
  · exact .inr h
theorem sqt_mono {a : Addr} {xs : List V} (e : ∀ b o, G b = some o → G' b = some o) (h : SqT K G a xs) : SqT K G' a xs := by
  rcases h with h | h
  · exact .inl (rd_mono e h)
  · exact .inr h
mutual
theorem DR.mono (p : A <+: A') (e : ∀ b o, G b = some o → G' b = some o) : ∀ {v : V} {d : D}, DR A G K v d → DR A' G' K v d
  | _, _, .non => .non
  | _, _, .bl b => .bl b
  | _, _, .int i => .int i
  | _, _, .str x => .str x
  | _, _, .lst h r => .lst (e _ _ h) (DRs.mono p e r)
  | _, _, .kls h r => .kls (sql_mono e h) (DRs.mono p e r)
  | _, _, .tup h r => .tup (sqt_mono e h) (DRs.mono p e r)
  | _, _, .dct0 h => .dct0 (e _ _ h)
  | _, _, .cel h => .cel (by
      obtain ⟨t, rfl⟩ := p
      rw [List.getElem?_append_left]
      · exact h
      · exact (List.getElem?_eq_some_iff.mp h).1)
  | _, _, .fn f => .fn f
theorem DRs.mono (p : A <+: A') (e : ∀ b o, G b = some o → G' b = some o) : ∀ {vs : List V} {ds : List D}, DRs A G K vs ds → DRs A' G' K vs ds
  | _, _, .nil => .nil
  | _, _, .cons h t => .cons (DR.mono p e h) (DRs.mono p e t)
end
theorem DRs.get {vs : List V} {ds : List D} (h : DRs A G K vs ds) : ∀ {i : Nat} {d : D}, ds[i]? = some d → ∃ v, vs[i]? = some v ∧ DR A G K v d := by
  induction ds generalizing vs with
  | nil => intro i d e; simp at e
  | cons d ds ih =>
    cases h with
    | cons h1 h2 =>
      intro i d' e
      cases i with
      | zero => simp at e; subst e; exact ⟨_, rfl, h1⟩
      | succ i => simpa using ih h2 (i := i) (d := d') (by simpa using e)
theorem DRs.getv {vs : List V} {ds : List D} (h : DRs A G K vs ds) : ∀ {i : Nat} {v : V}, vs[i]? = some v → ∃ d, ds[i]? = some d ∧ DR A G K v d := by
  induction ds generalizing vs with
  | nil => intro i d e; cases h; simp at e
  | cons d ds ih =>
    cases h with
    | cons h1 h2 =>
      intro i d' e
      cases i with
      | zero => simp at e; subst e; exact ⟨_, rfl, h1⟩
      | succ i => simpa using ih h2 (i := i) (v := d') (by simpa using e)
theorem DRs.append {vs ws : List V} {ds es : List D} (h : DRs A G K vs ds) (k : DRs A G K ws es) : DRs A G K (vs ++ ws) (ds ++ es) := by
  induction ds generalizing vs with
  | nil => cases h; exact k
  | cons d ds ih =>
    cases h with
    | cons h1 h2 => exact .cons h1 (ih h2)
theorem DRs.take {vs : List V} {ds : List D} (h : DRs A G K vs ds) : ∀ n : Nat, DRs A G K (vs.take n) (ds.take n) := by
  induction ds generalizing vs with
  | nil => cases h; intro n; simp; exact .nil
  | cons d ds ih =>
    cases h with
    | cons h1 h2 =>
      intro n
      cases n with
      | zero => exact .nil
      | succ n => exact .cons h1 (ih h2 n)
theorem DRs.drop {vs : List V} {ds : List D} (h : DRs A G K vs ds) : ∀ n : Nat, DRs A G K (vs.drop n) (ds.drop n) := by
  induction ds generalizing vs with
  | nil => cases h; intro n; simp; exact .nil
  | cons d ds ih =>
    cases h with
    | cons h1 h2 =>
      intro n
      cases n with
      | zero => exact .cons h1 h2
      | succ n => exact ih h2 n
theorem DRs.set {vs : List V} {ds : List D} {v : V} {d : D} (h : DRs A G K vs ds) (r : DR A G K v d) : ∀ i : Nat, DRs A G K (vs.set i v) (ds.set i d) := by
  induction ds generalizing vs with
  | nil => cases h; intro i; exact .nil
  | cons d ds ih =>
    cases h with
    | cons h1 h2 =>
      intro i
      cases i with
      | zero => exact .cons r h2
      | succ i => exact .cons h1 (ih h2 i)
end

/-- the store holds what it says -/
structure SOk (K : PySem.W.Frag) (A Z : List Addr) (S : Sto) (H : Hp) : Prop where
  len : A.length = S.length
  nd : A.Nodup
  there : ∀ a ∈ A, H a ≠ none
  hid : ∀ b ∈ Z, H b ≠ none ∧ b ∉ A
  at_ : ∀ (i : Nat) (c : CO) (ds : List D), S[i]? = some c → (c = .lst ds ∨ c = .lk ds) → ∃ a vs, A[i]? = some a ∧ H a = some (.lst vs) ∧ DRs A (cut A Z S H) K vs ds
/-- what a run leaves -/
structure Grow (K : PySem.W.Frag) (Z : List Addr) (A : List Addr) (S : Sto) (H : Hp) (A' : List Addr) (S' : Sto) (H' : Hp) : Prop where
  pre : A <+: A'
  ok : SOk K A' Z S' H'
  ex : ∀ b o, cut A Z S H b = some o → cut A' Z S' H' b = some o
  hid : ∀ b ∈ Z, H' b = H b
  lk : ∀ (i : Nat) (ds : List D), S[i]? = some (.lk ds) → S'[i]? = some (.lk ds)
/-- the same, without the word of what is locked -/
structure Grow0 (K : PySem.W.Frag) (Z : List Addr) (A : List Addr) (S : Sto) (H : Hp) (A' : List Addr) (S' : Sto) (H' : Hp) : Prop where
  pre : A <+: A'
  ok : SOk K A' Z S' H'
  ex : ∀ b o, cut A Z S H b = some o → cut A' Z S' H' b = some o
  hid : ∀ b ∈ Z, H' b = H b
section
variable {K : PySem.W.Frag} {A A' A'' Z : List Addr} {S S' S'' : Sto} {H H' H'' : Hp}
theorem Grow.refl (h : SOk K A Z S H) : Grow K Z A S H A S H := ⟨List.prefix_refl _, h, fun _ _ h => h, fun _ _ => rfl, fun _ _ h => h⟩
theorem Grow.trans (g : Grow K Z A S H A' S' H') (g' : Grow K Z A' S' H' A'' S'' H'') : Grow K Z A S H A'' S'' H'' :=
  ⟨g.pre.trans g'.pre, g'.ok, fun b o h => g'.ex b o (g.ex b o h), fun b hb => (g'.hid b hb).trans (g.hid b hb), fun i ds h => g'.lk i ds (g.lk i ds h)⟩
theorem Grow.zero (g : Grow K Z A S H A' S' H') : Grow0 K Z A S H A' S' H' := ⟨g.pre, g.ok, g.ex, g.hid⟩
theorem Grow0.refl (h : SOk K A Z S H) : Grow0 K Z A S H A S H := ⟨List.prefix_refl _, h, fun _ _ h => h, fun _ _ => rfl⟩
theorem Grow0.trans (g : Grow0 K Z A S H A' S' H') (g' : Grow0 K Z A' S' H' A'' S'' H'') : Grow0 K Z A S H A'' S'' H'' :=
  ⟨g.pre.trans g'.pre, g'.ok, fun b o h => g'.ex b o (g.ex b o h), fun b hb => (g'.hid b hb).trans (g.hid b hb)⟩
theorem DR.grow0 {v : V} {d : D} (r : DR A (cut A Z S H) K v d) (g : Grow0 K Z A S H A' S' H') : DR A' (cut A' Z S' H') K v d := r.mono g.pre g.ex
theorem DRs.grow0 {vs : List V} {ds : List D} (r : DRs A (cut A Z S H) K vs ds) (g : Grow0 K Z A S H A' S' H') : DRs A' (cut A' Z S' H') K vs ds := r.mono g.pre g.ex
theorem DR.grow {v : V} {d : D} (r : DR A (cut A Z S H) K v d) (g : Grow K Z A S H A' S' H') : DR A' (cut A' Z S' H') K v d := r.mono g.pre g.ex
theorem DRs.grow {vs : List V} {ds : List D} (r : DRs A (cut A Z S H) K vs ds) (g : Grow K Z A S H A' S' H') : DRs A' (cut A' Z S' H') K vs ds := r.mono g.pre g.ex
/-- an address of a list that may change -/
def Live (A : List Addr) (S : Sto) (b : Addr) : Prop := ∃ (i : Nat) (c : CO), A[i]? = some b ∧ S[i]? = some c ∧ c.live = true
theorem zip_any {A : List Addr} {S : Sto} {b : Addr} : (A.zip S).any (fun p => p.2.live && p.1 == b) = true ↔ Live A S b := by
  constructor
  · intro h
    obtain ⟨⟨a, c⟩, hm, hp⟩ := List.any_eq_true.mp h
    obtain ⟨i, hi⟩ := List.mem_iff_getElem?.mp hm
    rw [List.getElem?_zip_eq_some] at hi
    simp only [Bool.and_eq_true, beq_iff_eq] at hp
    exact ⟨i, c, by rw [hi.1, hp.2], hi.2, hp.1⟩
  · rintro ⟨i, c, h1, h2, h3⟩
    refine List.any_eq_true.mpr ⟨(b, c), List.mem_iff_getElem?.mpr ⟨i, List.getElem?_zip_eq_some.mpr ⟨h1, h2⟩⟩, ?_⟩
    simp [h3]
theorem cut_none {b : Addr} (h : b ∈ Z ∨ Live A S b) : cut A Z S H b = none := by
  unfold cut
  rw [if_pos]
  rw [Bool.or_eq_true, zip_any]
  exact h.elim (fun h => .inl (by simpa using h)) .inr
theorem cut_some {b : Addr} {o : HO} : cut A Z S H b = some o ↔ (H b = some o ∧ b ∉ Z ∧ ¬ Live A S b) := by
  unfold cut
  by_cases h : (Z.contains b || (A.zip S).any (fun p => p.2.live && p.1 == b)) = true
  · rw [if_pos h]
    rw [Bool.or_eq_true, zip_any] at h
    constructor
    · intro z; cases z
    · rintro ⟨_, z1, z2⟩
      rcases h with h | h
      · exact absurd (by simpa using h) z1
      · exact absurd h z2
  · rw [if_neg h]
    rw [Bool.or_eq_true, zip_any] at h
    constructor
    · intro z; exact ⟨z, fun q => h (.inl (by simpa using q)), fun q => h (.inr q)⟩
    · intro z; exact z.1
theorem cut_sub {b : Addr} {o : HO} (h : cut A Z S H b = some o) : H b = some o := (cut_some.mp h).1
theorem SOk.fresh (ok : SOk K A Z S H) {p : Addr} (h : H p = none) : p ∉ Z ∧ ¬ Live A S p :=
  ⟨fun q => (ok.hid p q).1 h, fun ⟨i, _, h1, _, _⟩ => ok.there p (List.mem_iff_getElem?.mpr ⟨i, h1⟩) h⟩
/-- a new object that is data -/
theorem cut_new {p : Addr} {o : HO} (ok : SOk K A Z S H) (h : H p = none) : cut A Z S (upd H p o) p = some o :=
  cut_some.mpr ⟨upd_same, ok.fresh h⟩
theorem cut_upd {p : Addr} {o : HO} (h : H p = none) : ∀ b u, cut A Z S H b = some u → cut A Z S (upd H p o) b = some u := fun b u e => by
  obtain ⟨e1, e2⟩ := cut_some.mp e
  refine cut_some.mpr ⟨?_, e2⟩
  rw [upd_ne (ne_of_none e1 h)]
  exact e1
theorem upd_some {p b : Addr} {o : HO} (h : H b ≠ none) (hp : H p = none) : upd H p o b = H b := upd_ne (fun e => h (e ▸ hp))
theorem SOk.new {p : Addr} {o : HO} (ok : SOk K A Z S H) (h : H p = none) : SOk K A Z S (upd H p o) := by
  refine ⟨ok.len, ok.nd, fun a ha => ?_, fun b hb => ?_, fun i c ds hc hd => ?_⟩
  · rw [upd_some (ok.there a ha) h]
    exact ok.there a ha
  · rw [upd_some (ok.hid b hb).1 h]
    exact ok.hid b hb
  · obtain ⟨a, vs, h1, h2, h3⟩ := ok.at_ i c ds hc hd
    exact ⟨a, vs, h1, by rw [upd_ne (ne_of_none h2 h)]; exact h2, h3.mono (List.prefix_refl _) (cut_upd h)⟩
theorem Grow.new {p : Addr} {o : HO} (ok : SOk K A Z S H) (h : H p = none) : Grow K Z A S H A S (upd H p o) :=
  ⟨List.prefix_refl _, ok.new h, cut_upd h, fun b hb => upd_some (ok.hid b hb).1 h, fun _ _ h => h⟩
/-- a new list that may change -/
theorem snoc_get {α : Type} {l : List α} {x : α} : (l ++ [x])[l.length]? = some x := by simp
theorem cut_snoc {p : Addr} {c : CO} (ok : SOk K A Z S H) (h : H p = none) {o : HO} : ∀ b u, cut A Z S H b = some u → cut (A ++ [p]) Z (S ++ [c]) (upd H p o) b = some u := fun b u e => by
  obtain ⟨e1, e2, e3⟩ := cut_some.mp e
  have nb : b ≠ p := ne_of_none e1 h
  refine cut_some.mpr ⟨by rw [upd_ne nb]; exact e1, e2, ?_⟩
  rintro ⟨i, c', h1, h2, h3⟩
  by_cases hi : i < A.length
  · rw [List.getElem?_append_left hi] at h1
    rw [List.getElem?_append_left (by rw [← ok.len]; exact hi)] at h2
    exact e3 ⟨i, c', h1, h2, h3⟩
  · rw [List.getElem?_append_right (Nat.le_of_not_lt hi)] at h1
    have : i - A.length = 0 := by
      cases q : i - A.length with
      | zero => rfl
      | succ n => rw [q] at h1; simp at h1
    rw [this] at h1
    exact nb (by simpa using h1.symm)
theorem Grow.cell {p : Addr} {vs : List V} {ds : List D} (ok : SOk K A Z S H) (h : H p = none) (r : DRs A (cut A Z S H) K vs ds) :
    Grow K Z A S H (A ++ [p]) (S ++ [.lst ds]) (upd H p (.lst vs)) := by
  have hp : p ∉ A := fun q => ok.there p q h
  refine ⟨List.prefix_append _ _, ⟨by simp [ok.len], ?_, fun a ha => ?_, fun b hb => ?_, fun i c es hc hd => ?_⟩, cut_snoc ok h, fun b hb => upd_some (ok.hid b hb).1 h, fun i es e => by rw [List.getElem?_append_left (List.getElem?_eq_some_iff.mp e).1]; exact e⟩
  · rw [List.nodup_append]
    refine ⟨ok.nd, by simp, fun a ha b hb => ?_⟩
    simp at hb
    subst hb
    exact fun e => hp (e ▸ ha)
  · rcases List.mem_append.mp ha with ha | ha
    · rw [upd_some (ok.there a ha) h]
      exact ok.there a ha
    · simp at ha
      subst ha
      rw [upd_same]
      simp
  · rw [upd_some (ok.hid b hb).1 h]
    refine ⟨(ok.hid b hb).1, fun q => ?_⟩
    rcases List.mem_append.mp q with q | q
    · exact (ok.hid b hb).2 q
    · simp at q
      subst q
      exact (ok.hid _ hb).1 h
  · by_cases hi : i < S.length
    · rw [List.getElem?_append_left hi] at hc
      obtain ⟨a, ws, h1, h2, h3⟩ := ok.at_ i c es hc hd
      refine ⟨a, ws, ?_, by rw [upd_ne (ne_of_none h2 h)]; exact h2, h3.mono (List.prefix_append _ _) (cut_snoc ok h)⟩
      rw [List.getElem?_append_left (by rw [ok.len]; exact hi)]
      exact h1
    · rw [List.getElem?_append_right (Nat.le_of_not_lt hi)] at hc
      have q : i - S.length = 0 := by
        cases q : i - S.length with
        | zero => rfl
        | succ n => rw [q] at hc; simp at hc
      rw [q] at hc
      have hc : c = .lst ds := by simpa using hc.symm
      subst hc
      have e : es = ds := by rcases hd with z | z <;> cases z; rfl
      subst e
      refine ⟨p, vs, ?_, upd_same, r.mono (List.prefix_append _ _) (cut_snoc ok h)⟩
      have : i = A.length := by rw [ok.len]; omega
      subst this
      exact snoc_get
/-- a list that may change is changed -/
theorem set_live {i : Nat} {c c' : CO} (h0 : S[i]? = some c) (hl : c.live = c'.live) {b : Addr} : Live A (S.set i c') b ↔ Live A S b := by
  have hi : i < S.length := (List.getElem?_eq_some_iff.mp h0).1
  constructor
  · rintro ⟨j, d, h1, h2, h3⟩
    by_cases e : i = j
    · subst e
      rw [List.getElem?_set_self hi] at h2
      cases h2
      exact ⟨i, c, h1, h0, by rw [hl]; exact h3⟩
    · rw [List.getElem?_set_ne e] at h2
      exact ⟨j, d, h1, h2, h3⟩
  · rintro ⟨j, d, h1, h2, h3⟩
    by_cases e : i = j
    · subst e
      rw [h0] at h2
      cases h2
      exact ⟨i, c', h1, List.getElem?_set_self hi, by rw [← hl]; exact h3⟩
    · exact ⟨j, d, h1, by rw [List.getElem?_set_ne e]; exact h2, h3⟩
theorem cut_set {i : Nat} {c c' : CO} (h0 : S[i]? = some c) (hl : c.live = c'.live) : cut A Z (S.set i c') H = cut A Z S H := by
  funext b
  unfold cut
  have : ((Z.contains b || (A.zip (S.set i c')).any (fun p => p.2.live && p.1 == b)) = true) = ((Z.contains b || (A.zip S).any (fun p => p.2.live && p.1 == b)) = true) := by
    rw [eq_iff_iff, Bool.or_eq_true, Bool.or_eq_true, zip_any, zip_any, set_live h0 hl]
  simp only [this]
theorem nodup_at {α : Type} : ∀ {l : List α} (h : l.Nodup) {i j : Nat} {x : α} (h1 : l[i]? = some x) (h2 : l[j]? = some x), i = j
  | [], _, i, j, x, h1, _ => by simp at h1
  | y :: l, h, i, j, x, h1, h2 => by
    rw [List.nodup_cons] at h
    cases i with
    | zero =>
      cases j with
      | zero => rfl
      | succ j =>
        simp at h1 h2
        subst h1
        exact absurd (List.mem_iff_getElem?.mpr ⟨j, h2⟩) h.1
    | succ i =>
      cases j with
      | zero =>
        simp at h1 h2
        subst h2
        exact absurd (List.mem_iff_getElem?.mpr ⟨i, h1⟩) h.1
      | succ j => rw [nodup_at h.2 (i := i) (j := j) (x := x) (by simpa using h1) (by simpa using h2)]
/-- the i-th list is written: a its address -/
theorem Grow.store {i : Nat} {a : Addr} {vs : List V} {ds es : List D} (ok : SOk K A Z S H) (h0 : S[i]? = some (.lst ds)) (ha : A[i]? = some a) (r : DRs A (cut A Z S H) K vs es) :
    Grow K Z A S H A (S.set i (.lst es)) (upd H a (.lst vs)) := by
  have hi : i < S.length := (List.getElem?_eq_some_iff.mp h0).1
  have nl : ∀ b o, cut A Z S H b = some o → b ≠ a := fun b o e z => by
    subst z
    rw [cut_none (.inr ⟨i, _, ha, h0, rfl⟩)] at e
    cases e
  have nz : ∀ b ∈ Z, b ≠ a := fun b hb z => (ok.hid b hb).2 (z ▸ List.mem_iff_getElem?.mpr ⟨i, ha⟩)
  have up : ∀ b o, cut A Z S H b = some o → cut A Z (S.set i (.lst es)) (upd H a (.lst vs)) b = some o := fun b o e => by
    obtain ⟨e1, e2, e3⟩ := cut_some.mp e
    exact cut_some.mpr ⟨by rw [upd_ne (nl b o e)]; exact e1, e2, fun q => e3 ((set_live h0 (by rfl)).mp q)⟩
  refine ⟨List.prefix_refl _, ⟨by rw [List.length_set]; exact ok.len, ok.nd, fun b hb => ?_, fun b hb => ?_, fun j c fs hc hd => ?_⟩, up, fun b hb => upd_ne (nz b hb), fun j es e => by
    rw [List.getElem?_set_ne (fun z => by subst z; rw [h0] at e; cases e)]
    exact e⟩
  · by_cases z : b = a
    · subst z; rw [upd_same]; simp
    · rw [upd_ne z]; exact ok.there b hb
  · rw [upd_ne (nz b hb)]
    exact ok.hid b hb
  · by_cases e : i = j
    · subst e
      rw [List.getElem?_set_self hi] at hc
      cases hc
      have e2 : fs = es := by rcases hd with z | z <;> cases z; rfl
      subst e2
      exact ⟨a, vs, ha, upd_same, r.mono (List.prefix_refl _) up⟩
    · rw [List.getElem?_set_ne e] at hc
      obtain ⟨b, ws, h1, h2, h3⟩ := ok.at_ j c fs hc hd
      refine ⟨b, ws, h1, ?_, h3.mono (List.prefix_refl _) up⟩
      have : b ≠ a := fun z => e (nodup_at ok.nd ha (z ▸ h1))
      rw [upd_ne this]
      exact h2
/-- lock and unlock: nothing happens to the heap -/
theorem Grow.relock {i : Nat} {c c' : CO} {ds : List D} (ok : SOk K A Z S H) (h0 : S[i]? = some c) (hc : c = .lst ds ∨ c = .lk ds) (hc' : c' = .lst ds ∨ c' = .lk ds) : Grow0 K Z A S H A (S.set i c') H := by
  have hi : i < S.length := (List.getElem?_eq_some_iff.mp h0).1
  have hl : c.live = c'.live := by rcases hc with rfl | rfl <;> rcases hc' with rfl | rfl <;> rfl
  have ec : cut A Z (S.set i c') H = cut A Z S H := cut_set h0 hl
  refine ⟨List.prefix_refl _, ⟨by rw [List.length_set]; exact ok.len, ok.nd, ok.there, ok.hid, fun j d fs hd hf => ?_⟩, fun b o e => by rw [ec]; exact e, fun _ _ => rfl⟩
  rw [ec]
  by_cases e : i = j
  · subst e
    rw [List.getElem?_set_self hi] at hd
    cases hd
    have e2 : fs = ds := by rcases hf with rfl | rfl <;> rcases hc' with z | z <;> cases z <;> rfl
    subst e2
    exact ok.at_ i c fs h0 hc
  · rw [List.getElem?_set_ne e] at hd
    exact ok.at_ j d fs hd hf
/-- a list that may change becomes data -/
theorem Grow.freeze {i : Nat} {ds : List D} (ok : SOk K A Z S H) (h0 : S[i]? = some (.lst ds)) : Grow K Z A S H A (S.set i .gone) H ∧ ∃ a vs, A[i]? = some a ∧ cut A Z (S.set i .gone) H a = some (.lst vs) ∧ DRs A (cut A Z (S.set i .gone) H) K vs ds := by
  have hi : i < S.length := (List.getElem?_eq_some_iff.mp h0).1
  have up : ∀ b o, cut A Z S H b = some o → cut A Z (S.set i .gone) H b = some o := fun b o e => by
    obtain ⟨e1, e2, e3⟩ := cut_some.mp e
    refine cut_some.mpr ⟨e1, e2, ?_⟩
    rintro ⟨j, d, h1, h2, h3⟩
    by_cases e : i = j
    · subst e
      rw [List.getElem?_set_self hi] at h2
      cases h2
      cases h3
    · rw [List.getElem?_set_ne e] at h2
      exact e3 ⟨j, d, h1, h2, h3⟩
  obtain ⟨a, vs, h1, h2, h3⟩ := ok.at_ i _ ds h0 (.inl rfl)
  refine ⟨⟨List.prefix_refl _, ⟨by rw [List.length_set]; exact ok.len, ok.nd, ok.there, ok.hid, fun j d fs hd hf => ?_⟩, up, fun _ _ => rfl, fun j es e => by
    rw [List.getElem?_set_ne (fun z => by subst z; rw [h0] at e; cases e)]
    exact e⟩, a, vs, h1, cut_some.mpr ⟨h2, fun hz => (ok.hid a hz).2 (List.mem_iff_getElem?.mpr ⟨i, h1⟩), ?_⟩, h3.mono (List.prefix_refl _) up⟩
  · by_cases e : i = j
    · subst e
      rw [List.getElem?_set_self hi] at hd
      cases hd
      rcases hf with z | z <;> cases z
    · rw [List.getElem?_set_ne e] at hd
      obtain ⟨b, ws, k1, k2, k3⟩ := ok.at_ j d fs hd hf
      exact ⟨b, ws, k1, k2, k3.mono (List.prefix_refl _) up⟩
  · rintro ⟨j, d, k1, k2, k3⟩
    have : i = j := nodup_at ok.nd h1 k1
    subst this
    rw [List.getElem?_set_self hi] at k2
    cases k2
    cases k3
/-! a list that a comprehension makes is hidden while it grows -/
theorem cut_hide {p : Addr} : ∀ b u, cut A (p :: Z) S H b = some u → cut A Z S H b = some u := fun b u e => by
  obtain ⟨e1, e2, e3⟩ := cut_some.mp e
  exact cut_some.mpr ⟨e1, fun q => e2 (List.mem_cons_of_mem _ q), e3⟩
theorem cut_hidden {p : Addr} {o : HO} (h : H p = none) : ∀ b u, cut A Z S H b = some u → cut A (p :: Z) S (upd H p o) b = some u := fun b u e => by
  obtain ⟨e1, e2, e3⟩ := cut_some.mp e
  have nb := ne_of_none e1 h
  exact cut_some.mpr ⟨by rw [upd_ne nb]; exact e1, fun q => (List.mem_cons.mp q).elim nb e2, e3⟩
theorem SOk.hide {p : Addr} {o : HO} (ok : SOk K A Z S H) (h : H p = none) : SOk K A (p :: Z) S (upd H p o) := by
  refine ⟨ok.len, ok.nd, fun a ha => ?_, fun b hb => ?_, fun i c ds hc hd => ?_⟩
  · rw [upd_some (ok.there a ha) h]
    exact ok.there a ha
  · rcases List.mem_cons.mp hb with rfl | hb
    · exact ⟨by rw [upd_same]; simp, fun q => ok.there _ q h⟩
    · rw [upd_some (ok.hid b hb).1 h]
      exact ok.hid b hb
  · obtain ⟨a, vs, h1, h2, h3⟩ := ok.at_ i c ds hc hd
    exact ⟨a, vs, h1, by rw [upd_ne (ne_of_none h2 h)]; exact h2, h3.mono (List.prefix_refl _) (cut_hidden h)⟩
/-- the hidden list is written -/
theorem cut_turn {p : Addr} {o : HO} : cut A (p :: Z) S (upd H p o) = cut A (p :: Z) S H := by
  funext b
  by_cases e : b = p
  · subst e
    rw [cut_none (.inl List.mem_cons_self), cut_none (.inl List.mem_cons_self)]
  · unfold cut
    rw [upd_ne e]
theorem SOk.turn {p : Addr} {o : HO} (ok : SOk K A (p :: Z) S H) : SOk K A (p :: Z) S (upd H p o) := by
  refine ⟨ok.len, ok.nd, fun a ha => ?_, fun b hb => ?_, fun i c ds hc hd => ?_⟩
  · by_cases e : a = p
    · subst e; rw [upd_same]; simp
    · rw [upd_ne e]; exact ok.there a ha
  · refine ⟨?_, (ok.hid b hb).2⟩
    by_cases e : b = p
    · subst e; rw [upd_same]; simp
    · rw [upd_ne e]; exact (ok.hid b hb).1
  · obtain ⟨a, vs, h1, h2, h3⟩ := ok.at_ i c ds hc hd
    have na : a ≠ p := fun e => (ok.hid p List.mem_cons_self).2 (e ▸ List.mem_iff_getElem?.mpr ⟨i, h1⟩)
    exact ⟨a, vs, h1, by rw [upd_ne na]; exact h2, by rw [cut_turn]; exact h3⟩
/-- it is let seen -/
theorem SOk.show_ {p : Addr} (ok : SOk K A (p :: Z) S H) : SOk K A Z S H :=
  ⟨ok.len, ok.nd, ok.there, fun b hb => ok.hid b (List.mem_cons_of_mem _ hb), fun i c ds hc hd => by
    obtain ⟨a, vs, h1, h2, h3⟩ := ok.at_ i c ds hc hd
    exact ⟨a, vs, h1, h2, h3.mono (List.prefix_refl _) cut_hide⟩⟩
theorem cut_shown {p : Addr} {o : HO} (ok : SOk K A (p :: Z) S H) (h : H p = some o) (hz : p ∉ Z) : cut A Z S H p = some o :=
  cut_some.mpr ⟨h, hz, fun ⟨i, _, h1, _, _⟩ => (ok.hid p List.mem_cons_self).2 (List.mem_iff_getElem?.mpr ⟨i, h1⟩)⟩
end
end DL

set_option maxHeartbeats 2000000
namespace DL
open PySem PySem.Spec PyProof.Rows L2
structure Sl (K : PySem.W.Frag) (A : List Addr) (G : Hp) (ρ : Env) (σ : L2.St) : Prop where
  len : ρ.length = σ.length
  at_ : ∀ (i : Nat) (d : D), ρ[i]? = some (some d) → ∃ v, σ[i]? = some (some v) ∧ DR A G K v d
theorem Sl.mono {K : PySem.W.Frag} {A A' : List Addr} {G G' : Hp} {ρ : Env} {σ : L2.St} (p : A <+: A') (e : ∀ b o, G b = some o → G' b = some o) (h : Sl K A G ρ σ) : Sl K A' G' ρ σ :=
  ⟨h.len, fun i d q => let ⟨v, h1, h2⟩ := h.at_ i d q; ⟨v, h1, h2.mono p e⟩⟩
theorem Sl.grow {K : PySem.W.Frag} {A A' Z : List Addr} {S S' : Sto} {H H' : Hp} {ρ : Env} {σ : L2.St} (h : Sl K A (cut A Z S H) ρ σ) (g : Grow K Z A S H A' S' H') : Sl K A' (cut A' Z S' H') ρ σ := h.mono g.pre g.ex
theorem Sl.set {K : PySem.W.Frag} {A : List Addr} {G : Hp} {ρ : Env} {σ : L2.St} (h : Sl K A G ρ σ) {v : V} {d : D} (r : DR A G K v d) (i : Nat) : Sl K A G (ρ.set i (some d)) (σ.set i (some v)) := by
  refine ⟨by rw [List.length_set, List.length_set]; exact h.len, fun j e q => ?_⟩
  by_cases c : i = j
  · subst c
    by_cases hi : i < ρ.length
    · rw [List.getElem?_set_self hi] at q
      cases q
      exact ⟨v, List.getElem?_set_self (by rw [← h.len]; exact hi), r⟩
    · rw [List.getElem?_eq_none (by rw [List.length_set]; omega)] at q
      cases q
  · rw [List.getElem?_set_ne c] at q
    obtain ⟨w, h1, h2⟩ := h.at_ j e q
    exact ⟨w, by rw [List.getElem?_set_ne c]; exact h1, h2⟩
theorem Sl.clear {K : PySem.W.Frag} {A : List Addr} {G : Hp} {ρ : Env} {σ : L2.St} (h : Sl K A G ρ σ) (i : Nat) (x : Option V) : Sl K A G (ρ.set i none) (σ.set i x) := by
  refine ⟨by rw [List.length_set, List.length_set]; exact h.len, fun j e q => ?_⟩
  by_cases c : i = j
  · subst c
    by_cases hi : i < ρ.length
    · rw [List.getElem?_set_self hi] at q
      cases q
    · rw [List.getElem?_eq_none (by rw [List.length_set]; omega)] at q
      cases q
  · rw [List.getElem?_set_ne c] at q
    obtain ⟨w, h1, h2⟩ := h.at_ j e q
    exact ⟨w, by rw [List.getElem?_set_ne c]; exact h1, h2⟩
/-- the slots of a block's own names forgotten -/
def wipeE (ρ : Env) : List Nat → Env
  | [] => ρ
  | v :: vs => (wipeE ρ vs).set v none
theorem Sl.wipe {K : PySem.W.Frag} {A : List Addr} {G : Hp} {ρ : Env} {σ : L2.St} (h : Sl K A G ρ σ) : ∀ vs : List Nat, Sl K A G (wipeE ρ vs) (L2.wipe σ vs)
  | [] => h
  | v :: vs => (Sl.wipe h vs).clear v none

/-- what is wanted behind a run: of its value P, of an error W -/
def Post {α : Type} (K : PySem.W.Frag) (W : WX) (ca : Str → Addr) (A Z : List Addr) (S : Sto) (H : Hp) (σ : L2.St) (r : Res α) (P : List Addr → Sto → Hp → α → Prop) : Prop := match r with
  | .ok a S' => ∀ A' H', Grow K Z A S H A' S' H' → P A' S' H' a
  | .err c d S' => ∀ A' H' dx v σ', Grow K Z A S H A' S' H' → H' dx = some (.xd [("value", v)]) → DR A' (cut A' Z S' H') K v d → W (.ref (ca c)) (some dx) σ' H'
  | .bad => False
section
variable {K : PySem.W.Frag} {W : WX} {ca : Str → Addr} {A A' Z : List Addr} {S S' : Sto} {H H' : Hp} {σ : L2.St}
theorem Post.later {α : Type} {r : Res α} {P : List Addr → Sto → Hp → α → Prop} (h : Post K W ca A Z S H σ r P) (g : Grow K Z A S H A' S' H') : Post K W ca A' Z S' H' σ r P := by
  cases r with
  | ok a T => exact fun B I g' => h B I (g.trans g')
  | err c d T => exact fun B I dx v σ' g' => h B I dx v σ' (g.trans g')
  | bad => exact h
theorem Post.imp {α : Type} {r : Res α} {P P' : List Addr → Sto → Hp → α → Prop} (h : Post K W ca A Z S H σ r P) (i : ∀ B T I a, Grow K Z A S H B T I → P B T I a → P' B T I a) : Post K W ca A Z S H σ r P' := by
  cases r with
  | ok a T => exact fun B I g' => i _ _ _ _ g' (h B I g')
  | err c d T => exact h
  | bad => exact h
theorem Post.split {α β : Type} {r : Res α} {f : α → Sto → Res β} {P : List Addr → Sto → Hp → β → Prop} (h : Post K W ca A Z S H σ (r.bind f) P) :
    Post K W ca A Z S H σ r fun B T I a => Post K W ca B Z T I σ (f a T) P := by
  cases r with
  | ok a T => exact fun B I g => Post.later h g
  | err c d T => exact h
  | bad => exact h
theorem Post.sig {α : Type} {r : Res α} {P : List Addr → Sto → Hp → α → Prop} (h : Post K W ca A Z S H σ r P) (σ' : L2.St) : Post K W ca A Z S H σ' r P := by
  cases r <;> exact h
end
/-! ### expressions -/
abbrev FE := Env → Sto → Res D
abbrev FT := Env → Sto → Res Bool
abbrev FA := Env → Sto → Res (List D)
def tE (K : PySem.W.Frag) (W : WX) (ca : Str → Addr) (f : FE) : TE := fun σ H Q => ∃ A Z S ρ, SOk K A Z S H ∧ Sl K A (cut A Z S H) ρ σ ∧ Post K W ca A Z S H σ (f ρ S) fun B T I d => ∀ v, DR B (cut B Z T I) K v d → Q v I
def tT (K : PySem.W.Frag) (W : WX) (ca : Str → Addr) (f : FT) : TT := fun σ H Q => ∃ A Z S ρ, SOk K A Z S H ∧ Sl K A (cut A Z S H) ρ σ ∧ Post K W ca A Z S H σ (f ρ S) fun B T I b => Q b I
def tA (K : PySem.W.Frag) (W : WX) (ca : Str → Addr) (f : FA) : TA := fun σ H Q => ∃ A Z S ρ, SOk K A Z S H ∧ Sl K A (cut A Z S H) ρ σ ∧ Post K W ca A Z S H σ (f ρ S) fun B T I ds => ∀ vs, DRs B (cut B Z T I) K vs ds → Q vs I
structure SE (X : Cx) (W : WX) (ca : Str → Addr) (e : Expr) (f : FE) : Prop where
  pe : PE X e (tE X.K W ca f)
structure ST_ (X : Cx) (W : WX) (ca : Str → Addr) (e : Expr) (f : FT) : Prop where
  pt : PT X e (tT X.K W ca f)
/-- a test whatever its whole is -/
structure SW (X : Cx) (W : WX) (ca : Str → Addr) (e : Expr) (f : FT) : Prop where
  pw : PW X e (tT X.K W ca f)
structure SA (X : Cx) (W : WX) (ca : Str → Addr) (es : List Expr) (f : FA) : Prop where
  pa : PA X es (tA X.K W ca f)
section
variable {X : Cx} {W : WX} {ca : Str → Addr} {e a b : Expr} {es : List Expr} {pos : Pos}
theorem pe_imp {t t' : TE} (h : PE X e t) (i : ∀ σ H Q, t' σ H Q → t σ H Q) : PE X e t' := ⟨fun pins s σ H Q I q => h.run pins s σ H Q I (i _ _ _ q)⟩
theorem pt_imp {t t' : TT} (h : PT X e t) (i : ∀ σ H Q, t' σ H Q → t σ H Q) : PT X e t' := ⟨fun pins s σ H Q I q => h.run pins s σ H Q I (i _ _ _ q)⟩
theorem pw_imp {t t' : TT} (h : PW X e t) (i : ∀ σ H Q, t' σ H Q → t σ H Q) : PW X e t' := ⟨fun whole pins s σ H Q I q => h.run whole pins s σ H Q I (i _ _ _ q)⟩
theorem pa_imp {t t' : TA} (h : PA X es t) (i : ∀ σ H Q, t' σ H Q → t σ H Q) : PA X es t' := ⟨fun pos pins s σ H Q I q => h.run pos pins s σ H Q I (i _ _ _ q)⟩
theorem SW.st {f : FT} (h : SW X W ca e f) : ST_ X W ca e f := ⟨h.pw.pt⟩

/-- constants -/
def fC (d : D) : FE := fun _ S => .ok d S
theorem se_of {f : FE} {t : TE} (h : PE X e t) (i : ∀ σ H Q, tE X.K W ca f σ H Q → t σ H Q) : SE X W ca e f := ⟨pe_imp h i⟩
theorem se_int {i : Int} {j : Nat} : SE X W ca (.Constant (.int i) j pos) (fC (.int i)) := se_of pe_int fun σ H Q ⟨A, Z, S, ρ, ok, sl, p⟩ => p A H (.refl ok) _ (.int i)
theorem se_bl {i : Bool} {j : Nat} : SE X W ca (.Constant (.bool i) j pos) (fC (.bl i)) := se_of pe_bl fun σ H Q ⟨A, Z, S, ρ, ok, sl, p⟩ => p A H (.refl ok) _ (.bl i)
theorem se_non {j : Nat} : SE X W ca (.Constant .none j pos) (fC .non) := se_of pe_non fun σ H Q ⟨A, Z, S, ρ, ok, sl, p⟩ => p A H (.refl ok) _ .non
theorem se_str {x : Str} {j : Nat} : SE X W ca (.Constant (.str x) j pos) (fC (.str x)) := se_of pe_str fun σ H Q ⟨A, Z, S, ρ, ok, sl, p⟩ => p A H (.refl ok) _ (.str x)
/-- a name -/
def fVar (i : Nat) : FE := fun ρ S => match ρ[i]? with
  | some (some d) => .ok d S
  | _ => .bad
theorem se_var (i : Nat) {x : Str} (hN : X.N[i]? = some x := by rfl) (hv : Vis X.env.scope x := by first | exact Or.inl rfl | exact Or.inr (Or.inl rfl) | exact Or.inr (Or.inr rfl)) (hd : (x == ("__debug__" : Str)) = false := by decide)
    (hcd : (x == ("__classdict__" : Str)) = false := by decide) : SE X W ca (.Name x pos) (fVar i) := by
  refine se_of (pe_var (i := i) hN hv hd hcd) fun σ H Q ⟨A, Z, S, ρ, ok, sl, p⟩ => ?_
  unfold fVar at p
  split at p
  · rename_i d hd
    obtain ⟨v, h1, h2⟩ := sl.at_ i d hd
    exact ⟨v, h1, p A H (.refl ok) v h2⟩
  · exact p.elim
/-- a module's constant -/
theorem se_glob {x : Str} {v : V} {d : D} {u : Value} (hg : Gl X x) (hm : X.mg x = some u) (r : RelV v u) (hd : ∀ A G, DR A G X.K v d) (hdb : (x == ("__debug__" : Str)) = false := by decide) : SE X W ca (.Name x pos) (fC d) :=
  se_of (pe_glob hg hm r hdb) fun σ H Q ⟨A, Z, S, ρ, ok, sl, p⟩ => p A H (.refl ok) _ (hd _ _)

/-! two values, an operation -/
abbrev Op2 := D → D → Sto → Option D
def rD (K : PySem.W.Frag) (r : Op2) : R2 := fun x y H Q => ∃ A Z S dx dy d, SOk K A Z S H ∧ DR A (cut A Z S H) K x dx ∧ DR A (cut A Z S H) K y dy ∧ r dx dy S = some d ∧ ∀ B I v, Grow K Z A S H B S I → DR B (cut B Z S I) K v d → Q v I
def okO (o : Option D) (S : Sto) : Res D := match o with
  | some d => .ok d S
  | none => .bad
@[simp] theorem okO_some {d : D} {S : Sto} : okO (some d) S = .ok d S := rfl
@[simp] theorem okO_none {S : Sto} : okO none S = .bad := rfl
def fOp (r : Op2) (fa fb : FE) : FE := fun ρ S => (fa ρ S).bind fun x S1 => (fb ρ S1).bind fun y S2 => okO (r x y S2) S2
theorem tE_bin {K : PySem.W.Frag} {r : Op2} {fa fb : FE} {σ : L2.St} {H : Hp} {Q : VK} (h : tE K W ca (fOp r fa fb) σ H Q) : tOp (rD K r) (tE K W ca fa) (tE K W ca fb) σ H Q := by
  obtain ⟨A, Z, S, ρ, ok, sl, p⟩ := h
  refine ⟨A, Z, S, ρ, ok, sl, (Post.split p).imp fun B T I x g q v rv => ?_⟩
  refine ⟨B, Z, T, ρ, g.ok, sl.grow g, (Post.split q).imp fun C U J y g2 q2 w rw_ => ?_⟩
  cases e : r x y U with
  | none => rw [e] at q2; exact q2.elim
  | some d =>
    rw [e] at q2
    exact ⟨C, Z, U, x, y, d, g2.ok, rv.grow g2, rw_, e, fun B I v g r => q2 B I g v r⟩
theorem se_op {op : Operator} {r : Op2} {fa fb : FE} (ho : OpR X (binaryOp op) (rD X.K r)) (ha : SE X W ca a fa) (hb : SE X W ca b fb) : SE X W ca (.BinOp a op b pos) (fOp r fa fb) :=
  se_of (pe_op ho ha.pe hb.pe) fun _ _ _ h => tE_bin h
theorem se_cmp {op : CmpOp} {r : Op2} {fa fb : FE} (ho : OpR X (compareOp op) (rD X.K r)) (ha : SE X W ca a fa) (hb : SE X W ca b fb) (hm : behindInMarks op b = false) : SE X W ca (.Compare a [op] [b] pos) (fOp r fa fb) :=
  se_of (pe_cmpR ho ha.pe hb.pe hm) fun _ _ _ h => tE_bin h
def asB (x : Res D) : Res Bool := x.bind fun d S => match d with
  | .bl b => .ok b S
  | _ => .bad
@[simp] theorem asB_ok {b : Bool} {S : Sto} : asB (.ok (.bl b) S) = .ok b S := rfl
def fB (f : FE) : FT := fun ρ S => asB (f ρ S)
theorem tT_B {K : PySem.W.Frag} {f : FE} {σ : L2.St} {H : Hp} {Q : Bool → Hp → Prop} (h : tT K W ca (fB f) σ H Q) : tE K W ca f σ H fun x H' => ∃ k, x = .bl k ∧ Q k H' := by
  obtain ⟨A, Z, S, ρ, ok, sl, p⟩ := h
  refine ⟨A, Z, S, ρ, ok, sl, (Post.split p).imp fun B T I d g q v rv => ?_⟩
  cases d with
  | bl b =>
    cases rv
    exact ⟨b, rfl, q B I (.refl g.ok)⟩
  | _ => exact q.elim
theorem st_cmp {op : CmpOp} {r : Op2} {fa fb : FE} (ho : OpR X (compareOp op) (rD X.K r)) (ha : SE X W ca a fa) (hb : SE X W ca b fb) (hm : behindInMarks op b = false) : ST_ X W ca (.Compare a [op] [b] pos) (fB (fOp r fa fb)) :=
  ⟨pt_imp (pt_cmpR ho ha.pe hb.pe hm) fun σ H Q h => tE_bin (Q := fun x H' => ∃ k, x = .bl k ∧ Q k H') (tT_B h)⟩
/-- an expression that gives True or False, as a test -/
theorem st_val {f : FE} (h : SE X W ca e f) (he : ∀ whole, isTrue e X.env whole = (do let v ← whole; standAt e.pos; holding [v] (truthy v)) := by intro _; rfl) : ST_ X W ca e (fB f) :=
  ⟨pt_imp (pt_val h.pe he) fun σ H Q h => tT_B h⟩
/-! and, or, not as tests -/
def fAnd (f g : FT) : FT := fun ρ S => (f ρ S).bind fun c S1 => if c = true then g ρ S1 else .ok false S1
def fOr (f g : FT) : FT := fun ρ S => (f ρ S).bind fun c S1 => if c = true then .ok true S1 else g ρ S1
def fNot (f : FT) : FT := fun ρ S => (f ρ S).bind fun c S1 => .ok (!c) S1
theorem st_not {f : FT} (h : ST_ X W ca a f) : ST_ X W ca (.UnaryOp .Not a pos) (fNot f) :=
  ⟨pt_imp (pt_not h.pt) fun σ H Q ⟨A, Z, S, ρ, ok, sl, p⟩ => ⟨A, Z, S, ρ, ok, sl, (Post.split p).imp fun B T I c g q => q B I (.refl g.ok)⟩⟩
theorem sw_and1 {f : FT} (h : ST_ X W ca a f) : SW X W ca (.BoolOp .And [a] pos) f := ⟨pw_and1 h.pt⟩
theorem sw_or1 {f : FT} (h : ST_ X W ca a f) : SW X W ca (.BoolOp .Or [a] pos) f := ⟨pw_or1 h.pt⟩
theorem tT_and {K : PySem.W.Frag} {f g : FT} {σ : L2.St} {H : Hp} {Q : Bool → Hp → Prop} (h : tT K W ca (fAnd f g) σ H Q) : tAnd (tT K W ca f) (tT K W ca g) σ H Q := by
  obtain ⟨A, Z, S, ρ, ok, sl, p⟩ := h
  refine ⟨A, Z, S, ρ, ok, sl, (Post.split p).imp fun B T I c gr q => ?_⟩
  cases c with
  | true => exact iteT ⟨B, Z, T, ρ, gr.ok, sl.grow gr, q⟩
  | false => exact iteF (q B I (.refl gr.ok))
theorem tT_or {K : PySem.W.Frag} {f g : FT} {σ : L2.St} {H : Hp} {Q : Bool → Hp → Prop} (h : tT K W ca (fOr f g) σ H Q) : tOr (tT K W ca f) (tT K W ca g) σ H Q := by
  obtain ⟨A, Z, S, ρ, ok, sl, p⟩ := h
  refine ⟨A, Z, S, ρ, ok, sl, (Post.split p).imp fun B T I c gr q => ?_⟩
  cases c with
  | true => exact iteT (q B I (.refl gr.ok))
  | false => exact iteF ⟨B, Z, T, ρ, gr.ok, sl.grow gr, q⟩
theorem sw_and {f g : FT} {rest : List Expr} (ha : ST_ X W ca a f) (hb : SW X W ca (.BoolOp .And (b :: rest) pos) g) : SW X W ca (.BoolOp .And (a :: b :: rest) pos) (fAnd f g) :=
  ⟨pw_imp (pw_and ha.pt hb.pw) fun _ _ _ h => tT_and h⟩
theorem sw_or {f g : FT} {rest : List Expr} (ha : ST_ X W ca a f) (hb : SW X W ca (.BoolOp .Or (b :: rest) pos) g) : SW X W ca (.BoolOp .Or (a :: b :: rest) pos) (fOr f g) :=
  ⟨pw_imp (pw_or ha.pt hb.pw) fun _ _ _ h => tT_or h⟩
/-! and, or, not as values (all but the last True or False) -/
def fAndV (f g : FE) : FE := fun ρ S => (asB (f ρ S)).bind fun c S1 => if c = true then g ρ S1 else .ok (.bl false) S1
def fOrV (f g : FE) : FE := fun ρ S => (asB (f ρ S)).bind fun c S1 => if c = true then .ok (.bl true) S1 else g ρ S1
def fNotV (f : FE) : FE := fun ρ S => (asB (f ρ S)).bind fun c S1 => .ok (.bl (!c)) S1
theorem se_one {op : BoolOp} {f : FE} (h : SE X W ca a f) : SE X W ca (.BoolOp op [a] pos) f := ⟨pe_one h.pe⟩
theorem se_and {f g : FE} {rest : List Expr} (ha : SE X W ca a f) (hb : SE X W ca (.BoolOp .And (b :: rest) pos) g) : SE X W ca (.BoolOp .And (a :: b :: rest) pos) (fAndV f g) := by
  refine se_of (pe_and ha.pe hb.pe) fun σ H Q ⟨A, Z, S, ρ, ok, sl, p⟩ => ?_
  refine ⟨A, Z, S, ρ, ok, sl, (Post.split (Post.split p)).imp fun B T I d gr q v rv => ?_⟩
  cases d with
  | bl c =>
    cases rv
    have q := q B I (.refl gr.ok)
    cases c with
    | true => exact ⟨true, rfl, iteT ⟨B, Z, T, ρ, gr.ok, sl.grow gr, q⟩⟩
    | false => exact ⟨false, rfl, iteF (q B I (.refl gr.ok) _ (.bl _))⟩
  | _ => exact q.elim
theorem se_or {f g : FE} {rest : List Expr} (ha : SE X W ca a f) (hb : SE X W ca (.BoolOp .Or (b :: rest) pos) g) : SE X W ca (.BoolOp .Or (a :: b :: rest) pos) (fOrV f g) := by
  refine se_of (pe_or ha.pe hb.pe) fun σ H Q ⟨A, Z, S, ρ, ok, sl, p⟩ => ?_
  refine ⟨A, Z, S, ρ, ok, sl, (Post.split (Post.split p)).imp fun B T I d gr q v rv => ?_⟩
  cases d with
  | bl c =>
    cases rv
    have q := q B I (.refl gr.ok)
    cases c with
    | true => exact ⟨true, rfl, iteT (q B I (.refl gr.ok) _ (.bl _))⟩
    | false => exact ⟨false, rfl, iteF ⟨B, Z, T, ρ, gr.ok, sl.grow gr, q⟩⟩
  | _ => exact q.elim
theorem se_not {f : FE} (ha : SE X W ca a f) : SE X W ca (.UnaryOp .Not a pos) (fNotV f) := by
  refine se_of (pe_not ha.pe) fun σ H Q ⟨A, Z, S, ρ, ok, sl, p⟩ => ?_
  refine ⟨A, Z, S, ρ, ok, sl, (Post.split (Post.split p)).imp fun B T I d gr q v rv => ?_⟩
  cases d with
  | bl c =>
    cases rv
    exact ⟨c, rfl, q B I (.refl gr.ok) B I (.refl gr.ok) _ (.bl _)⟩
  | _ => exact q.elim
/-- a if t else b -/
def fIf (t : FT) (f g : FE) : FE := fun ρ S => (t ρ S).bind fun c S1 => if c = true then f ρ S1 else g ρ S1
theorem se_ifExp {c : Expr} {t : FT} {f g : FE} (hc : ST_ X W ca c t) (ha : SE X W ca a f) (hb : SE X W ca b g) : SE X W ca (.IfExp c a b pos) (fIf t f g) := by
  refine se_of (pe_ifExp hc.pt ha.pe hb.pe) fun σ H Q ⟨A, Z, S, ρ, ok, sl, p⟩ => ?_
  refine ⟨A, Z, S, ρ, ok, sl, (Post.split p).imp fun B T I c gr q => ?_⟩
  cases c with
  | true => exact iteT ⟨B, Z, T, ρ, gr.ok, sl.grow gr, q⟩
  | false => exact iteF ⟨B, Z, T, ρ, gr.ok, sl.grow gr, q⟩
/-! argument lists, displays -/
def fNil : FA := fun _ S => .ok [] S
def fCons (f : FE) (g : FA) : FA := fun ρ S => (f ρ S).bind fun d S1 => (g ρ S1).bind fun ds S2 => .ok (d :: ds) S2
theorem sa_nil : SA X W ca [] fNil := ⟨pa_imp pa_nil fun σ H Q ⟨A, Z, S, ρ, ok, sl, p⟩ => p A H (.refl ok) [] .nil⟩
theorem sa_cons {f : FE} {g : FA} (h : SE X W ca e f) (hr : SA X W ca es g) (hs : starEach (e :: es) X.env = (false, eval e X.env) :: starEach es X.env := by rfl) : SA X W ca (e :: es) (fCons f g) := by
  refine ⟨pa_imp (pa_cons h.pe hr.pa hs) fun σ H Q ⟨A, Z, S, ρ, ok, sl, p⟩ => ?_⟩
  refine ⟨A, Z, S, ρ, ok, sl, (Post.split p).imp fun B T I d gr q v rv => ?_⟩
  refine ⟨B, Z, T, ρ, gr.ok, sl.grow gr, (Post.split q).imp fun C U J ds gr2 q2 vs rvs => ?_⟩
  exact q2 C J (.refl gr2.ok) (v :: vs) (.cons (rv.grow gr2) rvs)
def capN : Nat := 10000000
theorem capN_le {n : Nat} (h : n ≤ capN) : n ≤ sizeLine := Nat.le_trans h (by decide)
theorem capN_lt {n : Nat} (h : n < capN) : n < sizeLine := Nat.lt_of_lt_of_le h (by decide)
def fTup (f : FA) : FE := fun ρ S => (f ρ S).bind fun ds S1 => if ds.length ≤ capN then .ok (.tup ds) S1 else .bad
theorem new_tup {K : PySem.W.Frag} {A Z : List Addr} {S : Sto} {H : Hp} {p : Addr} {vs : List V} {ds : List D} (ok : SOk K A Z S H) (h : H p = none) (r : DRs A (cut A Z S H) K vs ds) :
    DR A (cut A Z S (upd H p (.tup vs))) K (.ref p) (.tup ds) := .tup (SqT.of (cut_new ok h)) (r.mono (List.prefix_refl _) (cut_upd h))
theorem new_lst {K : PySem.W.Frag} {A Z : List Addr} {S : Sto} {H : Hp} {p : Addr} {vs : List V} {ds : List D} (ok : SOk K A Z S H) (h : H p = none) (r : DRs A (cut A Z S H) K vs ds) :
    DR A (cut A Z S (upd H p (.lst vs))) K (.ref p) (.lst ds) := .lst (cut_new ok h) (r.mono (List.prefix_refl _) (cut_upd h))
theorem se_tup {f : FA} {k : Nat} (h : SA X W ca es f) : SE X W ca (.Tuple es k pos) (fTup f) := by
  refine se_of (pe_tup h.pa) fun σ H Q ⟨A, Z, S, ρ, ok, sl, p⟩ => ?_
  refine ⟨A, Z, S, ρ, ok, sl, (Post.split p).imp fun B T I ds gr q vs rv => ?_⟩
  by_cases hc : ds.length ≤ capN
  · rw [if_pos hc] at q
    exact ⟨by rw [rv.length]; exact capN_le hc, fun p hp => q B _ (.new gr.ok hp) _ (new_tup gr.ok hp rv)⟩
  · rw [if_neg hc] at q
    exact q.elim
/-- a list as data -/
def fLst (f : FA) : FE := fun ρ S => (f ρ S).bind fun ds S1 => if ds.length ≤ capN then .ok (.lst ds) S1 else .bad
/-- a list that may change -/
def fLstC (f : FA) : FE := fun ρ S => (f ρ S).bind fun ds S1 => if ds.length ≤ capN then .ok (.cel S1.length) (S1 ++ [.lst ds]) else .bad
theorem se_lst {f : FA} (h : SA X W ca es f) : SE X W ca (.List es pos) (fLst f) := by
  refine se_of (pe_lst h.pa) fun σ H Q ⟨A, Z, S, ρ, ok, sl, p⟩ => ?_
  refine ⟨A, Z, S, ρ, ok, sl, (Post.split p).imp fun B T I ds gr q vs rv => ?_⟩
  by_cases hc : ds.length ≤ capN
  · rw [if_pos hc] at q
    exact ⟨by rw [rv.length]; exact capN_le hc, fun p hp => q B _ (.new gr.ok hp) _ (new_lst gr.ok hp rv)⟩
  · rw [if_neg hc] at q
    exact q.elim
theorem new_cel {K : PySem.W.Frag} {A Z : List Addr} {S : Sto} {H G : Hp} {p : Addr} (ok : SOk K A Z S H) : DR (A ++ [p]) G K (.ref p) (.cel S.length) := .cel (by rw [← ok.len]; exact snoc_get)
theorem se_lstC {f : FA} (h : SA X W ca es f) : SE X W ca (.List es pos) (fLstC f) := by
  refine se_of (pe_lst h.pa) fun σ H Q ⟨A, Z, S, ρ, ok, sl, p⟩ => ?_
  refine ⟨A, Z, S, ρ, ok, sl, (Post.split p).imp fun B T I ds gr q vs rv => ?_⟩
  by_cases hc : ds.length ≤ capN
  · rw [if_pos hc] at q
    exact ⟨by rw [rv.length]; exact capN_le hc, fun p hp => q _ _ (.cell gr.ok hp rv) _ (new_cel gr.ok)⟩
  · rw [if_neg hc] at q
    exact q.elim
end
end DL

set_option maxHeartbeats 2000000
namespace DL
open PySem PySem.Spec PyProof.Rows L2
/-! ### lists and tuples that are read -/
def lstOf (S : Sto) : D → Option (List D)
  | .lst xs => some xs
  | .cel i => match S[i]? with
    | some (.lst xs) => some xs
    | some (.lk xs) => some xs
    | _ => none
  | _ => none
/-- also one that is only read -/
def seqOf (S : Sto) : D → Option (List D)
  | .kls xs => some xs
  | d => lstOf S d
section
variable {K : PySem.W.Frag} {A Z : List Addr} {S : Sto} {H : Hp} {v : V} {d : D} {xs : List D}
theorem lstOf_at (ok : SOk K A Z S H) (r : DR A (cut A Z S H) K v d) (h : lstOf S d = some xs) : ∃ a vs, v = .ref a ∧ H a = some (.lst vs) ∧ DRs A (cut A Z S H) K vs xs := by
  cases r with
  | lst h1 h2 => cases h; exact ⟨_, _, rfl, cut_sub h1, h2⟩
  | @cel a i h1 =>
    unfold lstOf at h
    simp only at h
    split at h
    · rename_i ys e
      cases h
      obtain ⟨a', vs, k1, k2, k3⟩ := ok.at_ i _ xs e (.inl rfl)
      rw [h1] at k1
      cases k1
      exact ⟨a, vs, rfl, k2, k3⟩
    · rename_i ys e
      cases h
      obtain ⟨a', vs, k1, k2, k3⟩ := ok.at_ i _ xs e (.inr rfl)
      rw [h1] at k1
      cases k1
      exact ⟨a, vs, rfl, k2, k3⟩
    · cases h
  | _ => cases h
theorem seqOf_at (ok : SOk K A Z S H) (r : DR A (cut A Z S H) K v d) (h : seqOf S d = some xs) : ∃ a vs, v = .ref a ∧ SqL K H a vs ∧ DRs A (cut A Z S H) K vs xs := by
  cases r with
  | kls h1 h2 => cases h; exact ⟨_, _, rfl, sql_mono (fun _ _ => cut_sub) h1, h2⟩
  | lst h1 h2 => cases h; exact ⟨_, _, rfl, SqL.of (cut_sub h1), h2⟩
  | cel h1 =>
    obtain ⟨a, vs, e, h1, h2⟩ := lstOf_at ok (.cel h1) h
    exact ⟨a, vs, e, SqL.of h1, h2⟩
  | _ => cases h
theorem tup_at (r : DR A (cut A Z S H) K v (.tup xs)) : ∃ a vs, v = .ref a ∧ SqT K H a vs ∧ DRs A (cut A Z S H) K vs xs := by
  cases r with
  | tup h1 h2 => exact ⟨_, _, rfl, sqt_mono (fun _ _ => cut_sub) h1, h2⟩
end
/-! ### data for == and repr -/
mutual
def toP0 : D → Option PyData
  | .non => some .none
  | .bl b => some (.bool b)
  | .int i => some (.int i)
  | .str x => some (.str x)
  | .lst xs => (toP0s xs).map .list
  | .kls xs => (toP0s xs).map .list
  | .tup xs => (toP0s xs).map .tuple
  | .dct _ => none
  | .cel _ => none
  | .fn _ => none
def toP0s : List D → Option (List PyData)
  | [] => some []
  | d :: ds => match toP0 d, toP0s ds with
    | some p, some ps => some (p :: ps)
    | _, _ => none
end
mutual
def toP (S : Sto) : D → Option PyData
  | .non => some .none
  | .bl b => some (.bool b)
  | .int i => some (.int i)
  | .str x => some (.str x)
  | .lst xs => (toPs S xs).map .list
  | .kls xs => (toPs S xs).map .list
  | .tup xs => (toPs S xs).map .tuple
  | .dct _ => none
  | .cel i => match lstOf S (.cel i) with
    | some xs => (toP0s xs).map .list
    | none => none
  | .fn _ => none
def toPs (S : Sto) : List D → Option (List PyData)
  | [] => some []
  | d :: ds => match toP S d, toPs S ds with
    | some p, some ps => some (p :: ps)
    | _, _ => none
end
section
variable {K : PySem.W.Frag} {A Z : List Addr} {S : Sto} {H : Hp}
mutual
theorem toP0_at : ∀ {d : D} {v : V} {p : PyData}, DR A (cut A Z S H) K v d → toP0 d = some p → Dp K H v p
  | .non, _, _, r, h => by cases r; cases h; exact .non
  | .bl b, _, _, r, h => by cases r; cases h; exact .bl b
  | .int i, _, _, r, h => by cases r; cases h; exact .int i
  | .str x, _, _, r, h => by cases r; cases h; exact .str x
  | .lst xs, _, _, r, h => by
    cases r with
    | lst h1 h2 =>
      unfold toP0 at h
      cases e : toP0s xs with
      | none => rw [e] at h; cases h
      | some ps =>
        rw [e] at h
        cases h
        exact .lst (SqL.of (cut_sub h1)) (toP0s_at h2 e)
  | .kls xs, _, _, r, h => by
    cases r with
    | kls h1 h2 =>
      unfold toP0 at h
      cases e : toP0s xs with
      | none => rw [e] at h; cases h
      | some ps =>
        rw [e] at h
        cases h
        exact .lst (sql_mono (fun _ _ => cut_sub) h1) (toP0s_at h2 e)
  | .tup xs, _, _, r, h => by
    cases r with
    | tup h1 h2 =>
      unfold toP0 at h
      cases e : toP0s xs with
      | none => rw [e] at h; cases h
      | some ps =>
        rw [e] at h
        cases h
        exact .tup (sqt_mono (fun _ _ => cut_sub) h1) (toP0s_at h2 e)
  | .dct _, _, _, _, h => by cases h
  | .cel _, _, _, _, h => by cases h
  | .fn _, _, _, _, h => by cases h
theorem toP0s_at : ∀ {ds : List D} {vs : List V} {ps : List PyData}, DRs A (cut A Z S H) K vs ds → toP0s ds = some ps → DpAll K H vs ps
  | [], _, _, r, h => by cases r; cases h; exact .nil
  | d :: ds, _, _, r, h => by
    cases r with
    | cons h1 h2 =>
      unfold toP0s at h
      cases e1 : toP0 d with
      | none => rw [e1] at h; cases h
      | some p =>
        cases e2 : toP0s ds with
        | none => rw [e1, e2] at h; cases h
        | some ps =>
          rw [e1, e2] at h
          cases h
          exact .cons (toP0_at h1 e1) (toP0s_at h2 e2)
end
mutual
theorem toP_at (ok : SOk K A Z S H) : ∀ {d : D} {v : V} {p : PyData}, DR A (cut A Z S H) K v d → toP S d = some p → Dp K H v p
  | .non, _, _, r, h => by cases r; cases h; exact .non
  | .bl b, _, _, r, h => by cases r; cases h; exact .bl b
  | .int i, _, _, r, h => by cases r; cases h; exact .int i
  | .str x, _, _, r, h => by cases r; cases h; exact .str x
  | .lst xs, _, _, r, h => by
    cases r with
    | lst h1 h2 =>
      unfold toP at h
      cases e : toPs S xs with
      | none => rw [e] at h; cases h
      | some ps =>
        rw [e] at h
        cases h
        exact .lst (SqL.of (cut_sub h1)) (toPs_at ok h2 e)
  | .kls xs, _, _, r, h => by
    cases r with
    | kls h1 h2 =>
      unfold toP at h
      cases e : toPs S xs with
      | none => rw [e] at h; cases h
      | some ps =>
        rw [e] at h
        cases h
        exact .lst (sql_mono (fun _ _ => cut_sub) h1) (toPs_at ok h2 e)
  | .tup xs, _, _, r, h => by
    cases r with
    | tup h1 h2 =>
      unfold toP at h
      cases e : toPs S xs with
      | none => rw [e] at h; cases h
      | some ps =>
        rw [e] at h
        cases h
        exact .tup (sqt_mono (fun _ _ => cut_sub) h1) (toPs_at ok h2 e)
  | .dct _, _, _, _, h => by cases h
  | .cel i, v, p, r, h => by
    unfold toP at h
    cases e : lstOf S (.cel i) with
    | none => rw [e] at h; cases h
    | some xs =>
      rw [e] at h
      simp only at h
      obtain ⟨a, vs, rfl, h1, h2⟩ := lstOf_at ok r e
      cases e2 : toP0s xs with
      | none => rw [e2] at h; cases h
      | some ps =>
        rw [e2] at h
        cases h
        exact .lst (SqL.of h1) (toP0s_at h2 e2)
  | .fn _, _, _, _, h => by cases h
theorem toPs_at (ok : SOk K A Z S H) : ∀ {ds : List D} {vs : List V} {ps : List PyData}, DRs A (cut A Z S H) K vs ds → toPs S ds = some ps → DpAll K H vs ps
  | [], _, _, r, h => by cases r; cases h; exact .nil
  | d :: ds, _, _, r, h => by
    cases r with
    | cons h1 h2 =>
      unfold toPs at h
      cases e1 : toP S d with
      | none => rw [e1] at h; cases h
      | some p =>
        cases e2 : toPs S ds with
        | none => rw [e1, e2] at h; cases h
        | some ps =>
          rw [e1, e2] at h
          cases h
          exact .cons (toP_at ok h1 e1) (toPs_at ok h2 e2)
end
end
/-! ### the operations, on data -/
/-- bounds, so written that nothing counts up to them -/
def ltN (i : Int) (m : Nat) : Bool := Nat.blt i.natAbs m
theorem ltN_at {i : Int} {m : Nat} (h : ltN i m = true) : i.natAbs < m := by
  unfold ltN at h
  exact Nat.le_of_ble_eq_true h
theorem ltN_of {i : Int} {m : Nat} (h : i.natAbs < m) : ltN i m = true := Nat.ble_eq_true_of_le h
theorem pow_room {b : Nat} {j : Int} (h1 : 0 ≤ j) (h : b * j.natAbs ≤ 134217728) : (b : Int) * j ≤ 134217728 := by
  have e : (b : Int) * j = ((b * j.natAbs : Nat) : Int) := by
    rw [Int.natCast_mul, Int.natAbs_of_nonneg h1]
  rw [e]
  omega
@[irreducible] def mulOk (i j : Int) : Bool := ltN i 18446744073709551616 || ltN j 18446744073709551616 || Nat.blt (i.natAbs.log2 + j.natAbs.log2) 1000000
@[irreducible] def fdivOk (j : Int) : Bool := decide (0 < j) && (ltN j 1073741824 || Nat.blt j.natAbs.log2 9000)
@[irreducible] def powOk (i j : Int) : Bool := decide (0 ≤ j) && ((ltN j 1000001 && ltN i 18446744073709551616) || Nat.ble (Builtin.Int.intBits i * j.natAbs) 134217728)
def addD : Op2 := fun x y S => match x, y with
  | .int i, .int j => some (.int (i + j))
  | .str a, .str b => if a.length + b.length ≤ capN then some (.str (a ++ b)) else none
  | .tup a, .tup b => if a.length + b.length ≤ capN then some (.tup (a ++ b)) else none
  | x, y => match lstOf S x, lstOf S y with
    | some a, some b => if a.length + b.length ≤ capN then some (.lst (a ++ b)) else none
    | _, _ => none
def subD : Op2 := fun x y _ => match x, y with
  | .int i, .int j => some (.int (i - j))
  | _, _ => none
def mulD : Op2 := fun x y S => match x, y with
  | .int i, .int j => if mulOk i j then some (.int (i * j)) else none
  | x, .int k => match lstOf S x with
    | some a => if ltN k 1000000000 && decide (a.length * k.toNat ≤ capN) then some (.lst (List.replicate k.toNat a).flatten) else none
    | none => none
  | _, _ => none
def fdivD : Op2 := fun x y _ => match x, y with
  | .int i, .int j => if fdivOk j then some (.int (i / j)) else none
  | _, _ => none
def modD : Op2 := fun x y _ => match x, y with
  | .int i, .int j => if decide (0 < j) then some (.int (i % j)) else none
  | _, _ => none
def powD : Op2 := fun x y _ => match x, y with
  | .int i, .int j => if powOk i j then some (.int (i ^ j.toNat)) else none
  | _, _ => none
def eqB (S : Sto) (x y : D) : Option Bool := match x, y with
  | .int i, .int j => some (decide (i = j))
  | .str a, .str b => some (decide (a = b))
  | x, y => match toP S x, toP S y with
  | some p, some q => if SeqAt.shaped p && SeqAt.shaped q then some (PyData.eqv p q) else none
  | _, _ => none
def eqD : Op2 := fun x y S => (eqB S x y).map .bl
def neD : Op2 := fun x y S => (eqB S x y).map fun b => .bl (!b)
def ltD : Op2 := fun x y _ => match x, y with
  | .int i, .int j => some (.bl (decide (i < j)))
  | _, _ => none
def leD : Op2 := fun x y _ => match x, y with
  | .int i, .int j => some (.bl (decide (i ≤ j)))
  | _, _ => none
def gtD : Op2 := fun x y _ => match x, y with
  | .int i, .int j => some (.bl (decide (j < i)))
  | _, _ => none
def intsOf : List D → Option (List Int)
  | [] => some []
  | .int i :: ds => (intsOf ds).map (i :: ·)
  | _ => none
def geI (ns ms : List Int) : Bool := Ob.lexAt (fun j => decide (ns.getD j 0 = ms.getD j 0)) (fun j => decide (ms.getD j 0 ≤ ns.getD j 0)) (decide (ns.length ≥ ms.length)) 0 (min ns.length ms.length)
def geD : Op2 := fun x y _ => match x, y with
  | .int i, .int j => some (.bl (decide (j ≤ i)))
  | .tup a, .tup b => match intsOf a, intsOf b with
    | some ns, some ms => some (.bl (geI ns ms))
    | _, _ => none
  | _, _ => none
def isNon : D → Bool
  | .non => true
  | _ => false
def isBlD (b : Bool) : D → Bool
  | .bl a => a == b
  | _ => false
def isD : Op2 := fun x y _ => match y with
  | .non => some (.bl (isNon x))
  | .bl b => some (.bl (isBlD b x))
  | _ => none
def isnotD : Op2 := fun x y _ => match y with
  | .non => some (.bl (!isNon x))
  | .bl b => some (.bl (!isBlD b x))
  | _ => none
def inD : Op2 := fun x y S => match toP S x, toP S y with
  | some p, some (.list qs) => if SeqAt.shaped p && SeqAt.shaped (.list qs) then some (.bl (qs.any fun z => PyData.eqv z p)) else none
  | _, _ => none
def notInD : Op2 := fun x y S => match toP S x, toP S y with
  | some p, some (.list qs) => if SeqAt.shaped p && SeqAt.shaped (.list qs) then some (.bl (!qs.any fun z => PyData.eqv z p)) else none
  | _, _ => none
theorem intsOf_map : ∀ {ds : List D} {ns : List Int}, intsOf ds = some ns → ∀ {A : List Addr} {G : Hp} {K : PySem.W.Frag} {vs : List V}, DRs A G K vs ds → vs = ns.map V.int
  | [], ns, h, _, _, _, _, r => by cases h; cases r; rfl
  | .int i :: ds, ns, h, _, _, _, _, r => by
    unfold intsOf at h
    cases e : intsOf ds with
    | none => rw [e] at h; cases h
    | some ms =>
      rw [e] at h
      cases h
      cases r with
      | cons h1 h2 =>
        cases h1
        rw [intsOf_map e h2]
        rfl
  | .non :: _, _, h, _, _, _, _, _ => by cases h
  | .bl _ :: _, _, h, _, _, _, _, _ => by cases h
  | .str _ :: _, _, h, _, _, _, _, _ => by cases h
  | .lst _ :: _, _, h, _, _, _, _, _ => by cases h
  | .kls _ :: _, _, h, _, _, _, _, _ => by cases h
  | .tup _ :: _, _, h, _, _, _, _, _ => by cases h
  | .dct _ :: _, _, h, _, _, _, _, _ => by cases h
  | .cel _ :: _, _, h, _, _, _, _, _ => by cases h
  | .fn _ :: _, _, h, _, _, _, _, _ => by cases h
section
variable {X : Cx}
theorem opd_add : OpR X (binaryOp .Add) (rD X.K addD) := by
  intro pins s σ H x y v u Q I rx ry ⟨A, Z, S, dx, dy, d, ok, hx, hy, e, q⟩
  have lists : (match lstOf S dx, lstOf S dy with
    | some a, some b => if a.length + b.length ≤ capN then some (D.lst (a ++ b)) else none
    | _, _ => none) = some d → wpAny (model X.prog X.w) X.A (binaryOp .Add v u) (EP X pins σ Q) X.xe s := fun e => by
    cases e1 : lstOf S dx with
    | none => rw [e1] at e; cases e
    | some a =>
      cases e2 : lstOf S dy with
      | none => rw [e1, e2] at e; cases e
      | some b =>
        rw [e1, e2] at e
        simp only at e
        by_cases hc : a.length + b.length ≤ capN
        · rw [if_pos hc] at e
          cases e
          obtain ⟨l, vs, rfl, h1, h2⟩ := lstOf_at ok hx e1
          obtain ⟨m, ws, rfl, k1, k2⟩ := lstOf_at ok hy e2
          exact op_cat pins s σ H _ _ v u Q I rx ry ⟨l, m, vs, ws, rfl, rfl, h1, k1, by rw [h2.length, k2.length]; exact capN_le hc, fun p hp => q A _ _ (.new ok hp) (new_lst ok hp (h2.append k2))⟩
        · rw [if_neg hc] at e
          cases e
  unfold addD at e
  split at e
  · cases hx; cases hy; cases e
    exact op_add pins s σ H _ _ v u Q I rx ry ⟨_, _, rfl, rfl, q A H _ (.refl ok) (.int _)⟩
  · cases hx; cases hy
    rename_i a b
    by_cases hc : a.length + b.length ≤ capN
    · rw [if_pos hc] at e
      cases e
      exact op_add_str pins s σ H _ _ v u Q I rx ry ⟨_, _, rfl, rfl, capN_le hc, q A H _ (.refl ok) (.str _)⟩
    · rw [if_neg hc] at e
      cases e
  · rename_i a b
    by_cases hc : a.length + b.length ≤ capN
    · rw [if_pos hc] at e
      cases e
      obtain ⟨l, vs, rfl, h1, h2⟩ := tup_at hx
      obtain ⟨m, ws, rfl, k1, k2⟩ := tup_at hy
      refine op_catA pins s σ H _ _ v u Q I rx ry ⟨l, m, vs, ws, rfl, rfl, h1, k1, by rw [h2.length, k2.length]; exact capN_le hc, fun z => ?_, fun _ z => ?_, fun _ _ p hp => q A _ _ (.new ok hp) (new_tup ok hp (h2.append k2))⟩
      · subst z
        cases h2
        exact q A H _ (.refl ok) hy
      · subst z
        cases k2
        rw [List.append_nil] at q
        exact q A H _ (.refl ok) hx
    · rw [if_neg hc] at e
      cases e
  · exact lists e
theorem opd_sub : OpR X (binaryOp .Sub) (rD X.K subD) := by
  intro pins s σ H x y v u Q I rx ry ⟨A, Z, S, dx, dy, d, ok, hx, hy, e, q⟩
  unfold subD at e
  split at e
  · cases hx; cases hy; cases e
    exact op_sub pins s σ H _ _ v u Q I rx ry ⟨_, _, rfl, rfl, q A H _ (.refl ok) (.int _)⟩
  · cases e
theorem opd_mul : OpR X (binaryOp .Mult) (rD X.K mulD) := by
  intro pins s σ H x y v u Q I rx ry ⟨A, Z, S, dx, dy, d, ok, hx, hy, e, q⟩
  unfold mulD at e
  split at e
  · cases hx; cases hy
    split at e
    · rename_i hc
      cases e
      unfold mulOk at hc
      simp only [Bool.or_eq_true] at hc
      have p64 : (2 : Int) ^ 64 = 18446744073709551616 := by decide +kernel
      rcases hc with (hc | hc) | hc
      · have := ltN_at hc
        exact op_mul pins s σ H _ _ v u Q I rx ry ⟨_, _, rfl, rfl, .inl (by rw [p64]; omega), q A H _ (.refl ok) (.int _)⟩
      · have := ltN_at hc
        exact op_mul pins s σ H _ _ v u Q I rx ry ⟨_, _, rfl, rfl, .inr (by rw [p64]; omega), q A H _ (.refl ok) (.int _)⟩
      · exact op_mulW pins s σ H _ _ v u Q I rx ry ⟨_, _, rfl, rfl, Nat.le_of_ble_eq_true hc, q A H _ (.refl ok) (.int _)⟩
    · cases e
  · rename_i k _
    split at e
    · rename_i a e1
      split at e
      · rename_i hc
        cases e
        simp only [Bool.and_eq_true, decide_eq_true_eq] at hc
        obtain ⟨l, vs, rfl, h1, h2⟩ := lstOf_at ok hx e1
        cases hy
        have p63 : (2 : Int) ^ 63 = 9223372036854775808 := by decide +kernel
        have hk := ltN_at hc.1
        refine op_rep pins s σ H _ _ v u Q I rx ry ⟨l, k, vs, rfl, rfl, h1, by rw [p63]; omega, by rw [p63]; omega, by rw [h2.length]; exact capN_le hc.2, fun p hp => q A _ _ (.new ok hp) (new_lst ok hp ?_)⟩
        generalize k.toNat = n
        induction n with
        | zero => exact .nil
        | succ n ih => rw [List.replicate_succ, List.replicate_succ, List.flatten_cons, List.flatten_cons]; exact h2.append ih
      · cases e
    · cases e
  · cases e
theorem opd_fdiv : OpR X (binaryOp .FloorDiv) (rD X.K fdivD) := by
  intro pins s σ H x y v u Q I rx ry ⟨A, Z, S, dx, dy, d, ok, hx, hy, e, q⟩
  unfold fdivD at e
  split at e
  · cases hx; cases hy
    split at e
    · rename_i hc
      cases e
      unfold fdivOk at hc
      simp only [Bool.or_eq_true, Bool.and_eq_true, decide_eq_true_eq] at hc
      rcases hc.2 with h2 | h2
      · have := ltN_at h2
        have h1 := hc.1
        exact op_fdiv pins s σ H _ _ v u Q I rx ry ⟨_, _, rfl, rfl, ⟨h1, by omega⟩, q A H _ (.refl ok) (.int _)⟩
      · exact op_fdivW pins s σ H _ _ v u Q I rx ry ⟨_, _, rfl, rfl, ⟨hc.1, Nat.le_of_ble_eq_true h2⟩, q A H _ (.refl ok) (.int _)⟩
    · cases e
  · cases e
theorem opd_mod : OpR X (binaryOp .Mod) (rD X.K modD) := by
  intro pins s σ H x y v u Q I rx ry ⟨A, Z, S, dx, dy, d, ok, hx, hy, e, q⟩
  unfold modD at e
  split at e
  · cases hx; cases hy
    split at e
    · rename_i hc
      cases e
      exact op_mod pins s σ H _ _ v u Q I rx ry ⟨_, _, rfl, rfl, of_decide_eq_true hc, q A H _ (.refl ok) (.int _)⟩
    · cases e
  · cases e
theorem op_powB : OpR X (binaryOp .Pow) (rI (fun i j => 0 ≤ j ∧ (Builtin.Int.intBits i : Int) * j ≤ 2 ^ 27) fun i j => .int (i ^ j.toNat)) := opI fun _ _ _ _ _ _ _ hc q => pow_int hc.1 hc.2 q
theorem opd_pow : OpR X (binaryOp .Pow) (rD X.K powD) := by
  intro pins s σ H x y v u Q I rx ry ⟨A, Z, S, dx, dy, d, ok, hx, hy, e, q⟩
  unfold powD at e
  split at e
  · cases hx; cases hy
    split at e
    · rename_i hc
      cases e
      unfold powOk at hc
      simp only [Bool.or_eq_true, Bool.and_eq_true, decide_eq_true_eq] at hc
      obtain ⟨h1, h2⟩ := hc
      have p64 : 2 ^ 64 = 18446744073709551616 := by decide +kernel
      have p27 : (2 : Int) ^ 27 = 134217728 := by decide +kernel
      rcases h2 with ⟨h2, h3⟩ | h2
      · have k2 := ltN_at h2
        have k3 := ltN_at h3
        exact op_pow pins s σ H _ _ v u Q I rx ry ⟨_, _, rfl, rfl, ⟨h1, by omega, by rw [p64]; exact k3⟩, q A H _ (.refl ok) (.int _)⟩
      · have k2 : Builtin.Int.intBits _ * _ ≤ 134217728 := Nat.le_of_ble_eq_true h2
        refine op_powB pins s σ H _ _ v u Q I rx ry ⟨_, _, rfl, rfl, ⟨h1, ?_⟩, q A H _ (.refl ok) (.int _)⟩
        rw [p27]
        exact pow_room h1 k2
    · cases e
  · cases e
theorem eqB_at {K : PySem.W.Frag} {A Z : List Addr} {S : Sto} {H : Hp} {x y : V} {dx dy : D} {b : Bool} (ok : SOk K A Z S H) (hx : DR A (cut A Z S H) K x dx) (hy : DR A (cut A Z S H) K y dy) (h : eqB S dx dy = some b) :
    (scal x y = true ∧ b = decide (x = y)) ∨ ∃ p q, Dp K H x p ∧ Dp K H y q ∧ SeqAt.shaped p = true ∧ SeqAt.shaped q = true ∧ b = PyData.eqv p q := by
  unfold eqB at h
  split at h
  · cases hx; cases hy; cases h
    exact .inl ⟨rfl, by simp⟩
  · cases hx; cases hy; cases h
    exact .inl ⟨rfl, by simp⟩
  · split at h
    · rename_i p q e1 e2
      split at h
      · rename_i hc
        cases h
        rw [Bool.and_eq_true] at hc
        exact .inr ⟨p, q, toP_at ok hx e1, toP_at ok hy e2, hc.1, hc.2, rfl⟩
      · cases h
    · cases h
theorem opd_eq (hu : X.A.units + 64 < cLine) : OpR X (compareOp .Eq) (rD X.K eqD) := by
  intro pins s σ H x y v u Q I rx ry ⟨A, Z, S, dx, dy, d, ok, hx, hy, e, q⟩
  unfold eqD at e
  cases h : eqB S dx dy with
  | none => rw [h] at e; cases e
  | some b =>
    rw [h] at e
    cases e
    rcases eqB_at ok hx hy h with ⟨h1, rfl⟩ | ⟨p, r, h1, h2, h3, h4, rfl⟩
    · exact op_eq pins s σ H _ _ v u Q I rx ry ⟨h1, q A H _ (.refl ok) (.bl _)⟩
    · exact op_eqD hu pins s σ H _ _ v u Q I rx ry ⟨p, r, h1, h2, h3, h4, q A H _ (.refl ok) (.bl _)⟩
theorem opd_ne (hu : X.A.units + 64 < cLine) : OpR X (compareOp .NotEq) (rD X.K neD) := by
  intro pins s σ H x y v u Q I rx ry ⟨A, Z, S, dx, dy, d, ok, hx, hy, e, q⟩
  unfold neD at e
  cases h : eqB S dx dy with
  | none => rw [h] at e; cases e
  | some b =>
    rw [h] at e
    cases e
    rcases eqB_at ok hx hy h with ⟨h1, rfl⟩ | ⟨p, r, h1, h2, h3, h4, rfl⟩
    · exact op_ne pins s σ H _ _ v u Q I rx ry ⟨h1, q A H _ (.refl ok) (.bl _)⟩
    · exact op_neD hu pins s σ H _ _ v u Q I rx ry ⟨p, r, h1, h2, h3, h4, q A H _ (.refl ok) (.bl _)⟩
theorem opd_lt : OpR X (compareOp .Lt) (rD X.K ltD) := by
  intro pins s σ H x y v u Q I rx ry ⟨A, Z, S, dx, dy, d, ok, hx, hy, e, q⟩
  unfold ltD at e
  split at e
  · cases hx; cases hy; cases e
    exact op_lt pins s σ H _ _ v u Q I rx ry ⟨_, _, rfl, rfl, q A H _ (.refl ok) (.bl _)⟩
  · cases e
theorem opd_le : OpR X (compareOp .LtE) (rD X.K leD) := by
  intro pins s σ H x y v u Q I rx ry ⟨A, Z, S, dx, dy, d, ok, hx, hy, e, q⟩
  unfold leD at e
  split at e
  · cases hx; cases hy; cases e
    exact op_le pins s σ H _ _ v u Q I rx ry ⟨_, _, rfl, rfl, q A H _ (.refl ok) (.bl _)⟩
  · cases e
theorem opd_gt : OpR X (compareOp .Gt) (rD X.K gtD) := by
  intro pins s σ H x y v u Q I rx ry ⟨A, Z, S, dx, dy, d, ok, hx, hy, e, q⟩
  unfold gtD at e
  split at e
  · cases hx; cases hy; cases e
    exact op_gt pins s σ H _ _ v u Q I rx ry ⟨_, _, rfl, rfl, q A H _ (.refl ok) (.bl _)⟩
  · cases e
def rGeT (K : PySem.W.Frag) : R2 := fun x y H Q => ∃ (a b : Addr) (ns ms : List Int), x = .ref a ∧ y = .ref b ∧ SqT K H a (ns.map V.int) ∧ SqT K H b (ms.map V.int) ∧ Q (.bl (geI ns ms)) H
theorem op_geT (hu : X.A.units < cLine) : OpR X (compareOp .GtE) (rGeT X.K) := by
  intro pins s σ H x y v u Q I rx ry h
  obtain ⟨a, b, ns, ms, rfl, rfl, ha, hb, q⟩ := h
  cases rx
  cases ry
  obtain ⟨its, r1, p1, _⟩ := I.tuple ha
  obtain ⟨its2, r2, p2, _⟩ := I.tuple hb
  have i1 : IntsAre its ns := Vals.ints r1
  have i2 : IntsAre its2 ms := Vals.ints r2
  have e1 : its.toArray.size = ns.length := by rw [List.size_toArray]; exact i1.length
  have e2 : its2.toArray.size = ms.length := by rw [List.size_toArray]; exact i2.length
  have at1 : ∀ j (h1 : j < its.toArray.size), ∃ t, its.toArray[j] = .int (ns.getD j 0) t := fun j h1 => PyProof.Rows.IntsAre.int_at i1 _ _ (by simp at h1; simp [h1])
  have at2 : ∀ j (h1 : j < its2.toArray.size), ∃ t, its2.toArray[j] = .int (ms.getD j 0) t := fun j h1 => PyProof.Rows.IntsAre.int_at i2 _ _ (by simp at h1; simp [h1])
  have R := Ob.RcOp.tuples_ge (A := X.A) (s := s) (e := fun j => decide (ns.getD j 0 = ms.getD j 0)) (r := fun j => decide (ms.getD j 0 ≤ ns.getD j 0)) p1 p2 hu (fun j h1 h2 => by
    obtain ⟨t, et⟩ := at1 j h1
    obtain ⟨t', et'⟩ := at2 j h2
    rw [et, et']
    have z : (ns.getD j 0 == ms.getD j 0) = decide (ns.getD j 0 = ms.getD j 0) := by
      by_cases q : ns.getD j 0 = ms.getD j 0
      · rw [decide_eq_true q]; exact beq_iff_eq.mpr q
      · rw [decide_eq_false q]; exact beq_eq_false_iff_ne.mpr q
    rw [← z]
    exact SeqAt.EqAt.int_int _ _ _ _) (fun j h1 h2 _ => by
    obtain ⟨t, et⟩ := at1 j h1
    obtain ⟨t', et'⟩ := at2 j h2
    rw [et, et']
    exact Ob.RcOp.ge_int _ _ _ _)
  rw [e1, e2] at R
  have z : wpAny (model X.prog X.w) X.A (compareOp .GtE (.ref a) (.ref b)) (EP X pins σ Q) X.xe s := R X.prog X.w X.xe (EP X pins σ Q) ⟨.bl _, H, I, rfl, q⟩
  exact z
theorem opd_ge (hu : X.A.units < cLine) : OpR X (compareOp .GtE) (rD X.K geD) := by
  intro pins s σ H x y v u Q I rx ry ⟨A, Z, S, dx, dy, d, ok, hx, hy, e, q⟩
  unfold geD at e
  split at e
  · cases hx; cases hy; cases e
    exact op_ge pins s σ H _ _ v u Q I rx ry ⟨_, _, rfl, rfl, q A H _ (.refl ok) (.bl _)⟩
  · split at e
    · rename_i ns ms e1 e2
      cases e
      obtain ⟨l, vs, rfl, h1, h2⟩ := tup_at hx
      obtain ⟨m, ws, rfl, k1, k2⟩ := tup_at hy
      rw [intsOf_map e1 h2] at h1
      rw [intsOf_map e2 k2] at k1
      exact op_geT hu pins s σ H _ _ v u Q I rx ry ⟨l, m, ns, ms, rfl, rfl, h1, k1, q A H _ (.refl ok) (.bl _)⟩
    · cases e
  · cases e
theorem isNon_at {K : PySem.W.Frag} {A : List Addr} {G : Hp} {x : V} {d : D} (h : DR A G K x d) : decide (x = .non) = isNon d := by
  cases h <;> rfl
theorem isB_at {K : PySem.W.Frag} {A : List Addr} {G : Hp} {x : V} {d : D} {b : Bool} {v : Value} (h : DR A G K x d) (r : RelV x v) : plainIs v (.bool b) = true ∧ (v == Value.bool b) = isBlD b d := by
  cases h with
  | non => cases r; exact ⟨rfl, rfl⟩
  | bl a =>
    cases r
    refine ⟨rfl, ?_⟩
    cases a <;> cases b <;> rfl
  | int i => obtain ⟨t, rfl⟩ := r; exact ⟨rfl, rfl⟩
  | str x => obtain ⟨t, rfl⟩ := r; exact ⟨rfl, rfl⟩
  | lst _ _ => cases r; exact ⟨rfl, rfl⟩
  | kls _ _ => cases r; exact ⟨rfl, rfl⟩
  | tup _ _ => cases r; exact ⟨rfl, rfl⟩
  | dct0 _ => cases r; exact ⟨rfl, rfl⟩
  | cel _ => cases r; exact ⟨rfl, rfl⟩
  | fn _ => cases r; exact ⟨rfl, rfl⟩
theorem opd_is : OpR X (compareOp .Is) (rD X.K isD) := by
  intro pins s σ H x y v u Q I rx ry ⟨A, Z, S, dx, dy, d, ok, hx, hy, e, q⟩
  unfold isD at e
  split at e
  · cases hy; cases e
    exact op_isN pins s σ H _ _ v u Q I rx ry ⟨rfl, by rw [isNon_at hx]; exact q A H _ (.refl ok) (.bl _)⟩
  · cases hy; cases e
    rename_i b
    cases (show u = Value.bool b from ry)
    obtain ⟨h1, h2⟩ := isB_at (b := b) hx rx
    exact wpAny_is_plain h1 ⟨.bl _, H, I, rfl, by rw [h2]; exact q A H _ (.refl ok) (.bl _)⟩
  · cases e
theorem opd_isnot : OpR X (compareOp .IsNot) (rD X.K isnotD) := by
  intro pins s σ H x y v u Q I rx ry ⟨A, Z, S, dx, dy, d, ok, hx, hy, e, q⟩
  unfold isnotD at e
  split at e
  · cases hy; cases e
    exact op_notN pins s σ H _ _ v u Q I rx ry ⟨rfl, by rw [isNon_at hx]; exact q A H _ (.refl ok) (.bl _)⟩
  · cases hy; cases e
    rename_i b
    cases (show u = Value.bool b from ry)
    obtain ⟨h1, h2⟩ := isB_at (b := b) hx rx
    exact wpAny_isNot_plain h1 ⟨.bl _, H, I, rfl, by rw [h2]; exact q A H _ (.refl ok) (.bl _)⟩
  · cases e
theorem opd_in (hu : X.A.units + 65 < cLine) : OpR X (compareOp .In) (rD X.K inD) := by
  intro pins s σ H x y v u Q I rx ry ⟨A, Z, S, dx, dy, d, ok, hx, hy, e, q⟩
  unfold inD at e
  split at e
  · rename_i p qs e1 e2
    split at e
    · rename_i hc
      cases e
      rw [Bool.and_eq_true] at hc
      exact op_inD hu pins s σ H _ _ v u Q I rx ry ⟨p, qs, toP_at ok hx e1, toP_at ok hy e2, hc.1, hc.2, q A H _ (.refl ok) (.bl _)⟩
    · cases e
  · cases e
theorem opd_notIn (hu : X.A.units + 65 < cLine) : OpR X (compareOp .NotIn) (rD X.K notInD) := by
  intro pins s σ H x y v u Q I rx ry ⟨A, Z, S, dx, dy, d, ok, hx, hy, e, q⟩
  unfold notInD at e
  split at e
  · rename_i p qs e1 e2
    split at e
    · rename_i hc
      cases e
      rw [Bool.and_eq_true] at hc
      exact op_notInD hu pins s σ H _ _ v u Q I rx ry ⟨p, qs, toP_at ok hx e1, toP_at ok hy e2, hc.1, hc.2, q A H _ (.refl ok) (.bl _)⟩
    · cases e
  · cases e
end
end DL

set_option maxHeartbeats 2000000
namespace DL
open PySem PySem.Spec PyProof.Rows L2
/-! ### items and slices -/
theorem atI_rel {A : List Addr} {G : Hp} {K : PySem.W.Frag} {vs : List V} {ds : List D} {i : Int} {d : D} (r : DRs A G K vs ds) (h : atI ds i = some d) : ∃ v, atI vs i = some v ∧ DR A G K v d := by
  unfold atI at h ⊢
  rw [r.length]
  cases e : ixN ds.length i with
  | none => rw [e] at h; cases h
  | some j =>
    rw [e] at h
    exact r.get h
def ixD : Op2 := fun x y S => match x, y with
  | .tup xs, .int i => atI xs i
  | .str z, .int i => if z.length ≤ capN then (atI z.cps.toList i).map fun c => .str ⟨#[c]⟩ else none
  | x, .int i => (seqOf S x).bind fun xs => atI xs i
  | _, _ => none
def cutD (xs : List D) (lo hi : Option Int) : List D := (xs.drop (HT.sIx xs.length 0 lo)).take (HT.sIx xs.length xs.length hi - HT.sIx xs.length 0 lo)
def slD (x : D) (lo hi : Option Int) (S : Sto) : Option D := match x with
  | .tup xs => some (.tup (cutD xs lo hi))
  | x => (seqOf S x).map fun xs => .lst (cutD xs lo hi)
theorem cut_rel {A : List Addr} {G : Hp} {K : PySem.W.Frag} {vs : List V} {ds : List D} (r : DRs A G K vs ds) (lo hi : Option Int) : DRs A G K (cutV vs lo hi) (cutD ds lo hi) := by
  unfold cutV cutD
  rw [r.length]
  exact (r.drop _).take _
section
variable {X : Cx}
theorem ixd : IxR X (rD X.K ixD) := by
  intro value slice pins s σ H x y v u Q I rx ry ⟨A, Z, S, dx, dy, d, ok, hx, hy, e, q⟩ hs
  have lists : ∀ i, y = .int i → ((seqOf S dx).bind fun xs => atI xs i) = some d → wpAny (model X.prog X.w) X.A (subscriptTail value slice v u) (EP X pins σ Q) X.xe s := fun i ey e => by
    cases e1 : seqOf S dx with
    | none => rw [e1] at e; cases e
    | some xs =>
      rw [e1] at e
      obtain ⟨a, vs, rfl, h1, h2⟩ := seqOf_at ok hx e1
      obtain ⟨w, h3, h4⟩ := atI_rel h2 e
      exact ix_list value slice pins s σ H _ _ v u Q I rx ry ⟨a, vs, i, w, rfl, ey, h1, h3, q A H _ (.refl ok) h4⟩ hs
  unfold ixD at e
  split at e
  · cases hy
    rename_i xs i
    obtain ⟨a, vs, rfl, h1, h2⟩ := tup_at hx
    obtain ⟨w, h3, h4⟩ := atI_rel h2 e
    exact ix_tup value slice pins s σ H _ _ v u Q I rx ry ⟨a, vs, i, w, rfl, rfl, h1, h3, q A H _ (.refl ok) h4⟩ hs
  · cases hx; cases hy
    rename_i z i
    split at e
    · rename_i hc
      cases e1 : atI z.cps.toList i with
      | none => rw [e1] at e; cases e
      | some c =>
        rw [e1] at e
        cases e
        exact ix_str value slice pins s σ H _ _ v u Q I rx ry ⟨z, i, c, rfl, rfl, capN_le hc, e1, q A H _ (.refl ok) (.str _)⟩ hs
    · cases e
  · cases hy
    exact lists _ rfl e
  · cases e
theorem se_ix {W : WX} {ca : Str → Addr} {a b : Expr} {pos : Pos} {fa fb : FE} (ha : SE X W ca a fa) (hb : SE X W ca b fb) (hs : PlainIx b) : SE X W ca (.Subscript a b pos) (fOp ixD fa fb) :=
  se_of (pe_ix ixd ha.pe hb.pe hs) fun _ _ _ h => tE_bin h
abbrev FO := Env → Sto → Res (Option Int)
def fNoPart : FO := fun _ S => .ok none S
def fPart (f : FE) : FO := fun ρ S => (f ρ S).bind fun d S1 => match d with
  | .int i => .ok (some i) S1
  | _ => .bad
def tO (K : PySem.W.Frag) (W : WX) (ca : Str → Addr) (f : FO) : TO := fun σ H Q => ∃ A Z S ρ, SOk K A Z S H ∧ Sl K A (cut A Z S H) ρ σ ∧ Post K W ca A Z S H σ (f ρ S) fun B T I o => Q o I
structure SO (X : Cx) (W : WX) (ca : Str → Addr) (e : Option Expr) (f : FO) : Prop where
  po : PO X e (tO X.K W ca f)
theorem po_imp {e : Option Expr} {t t' : TO} (h : PO X e t) (i : ∀ σ H Q, t' σ H Q → t σ H Q) : PO X e t' := ⟨fun pins s σ H Q I q => h.run pins s σ H Q I (i _ _ _ q)⟩
variable {W : WX} {ca : Str → Addr} {e : Expr} {es : List Expr} {pos : Pos}
theorem so_none : SO X W ca none fNoPart := ⟨po_imp po_none fun σ H Q ⟨A, Z, S, ρ, ok, sl, p⟩ => p A H (.refl ok)⟩
theorem so_some {f : FE} (h : SE X W ca e f) : SO X W ca (some e) (fPart f) := ⟨po_imp (po_some h.pe) fun σ H Q ⟨A, Z, S, ρ, ok, sl, p⟩ => by
  refine ⟨A, Z, S, ρ, ok, sl, (Post.split p).imp fun B T I d g q v rv => ?_⟩
  cases d with
  | int i =>
    cases rv
    exact ⟨i, rfl, q B I (.refl g.ok)⟩
  | _ => exact q.elim⟩
def fSl (f : FE) (lo hi : FO) : FE := fun ρ S => (f ρ S).bind fun d S1 => (lo ρ S1).bind fun l S2 => (hi ρ S2).bind fun h S3 => okO (slD d l h S3) S3
def rSlD (K : PySem.W.Frag) : V → Option Int → Option Int → Hp → VK → Prop := fun x lo hi H Q => ∃ A Z S dx d, SOk K A Z S H ∧ DR A (cut A Z S H) K x dx ∧ slD dx lo hi S = some d ∧ ∀ B I v, Grow K Z A S H B S I → DR B (cut B Z S I) K v d → Q v I
theorem take_all {α : Type} (xs : List α) {a b : Nat} (h : a = 0 ∧ b = xs.length) : (xs.drop a).take (b - a) = xs := by
  obtain ⟨rfl, rfl⟩ := h
  simp
theorem sld : SlR X (rSlD X.K) := by
  intro pins s σ H x v vl vu lo hi sl Q I rx hs pl pu ⟨A, Z, S, dx, d, ok, hx, e, q⟩
  unfold slD at e
  split at e
  · rename_i xs
    cases e
    obtain ⟨a, vs, rfl, h1, h2⟩ := tup_at hx
    refine sl_tupA pins s σ H _ v vl vu lo hi sl Q I rx hs pl pu ⟨a, vs, rfl, h1, fun hw => q A H _ (.refl ok) ?_, fun _ p hp => q A _ _ (.new ok hp) (new_tup ok hp (cut_rel h2 lo hi))⟩
    have : cutD xs lo hi = xs := by
      unfold cutD
      rw [h2.length] at hw
      exact take_all xs hw
    rw [this]
    exact hx
  · cases e1 : seqOf S dx with
    | none => rw [e1] at e; cases e
    | some xs =>
      rw [e1] at e
      cases e
      obtain ⟨a, vs, rfl, h1, h2⟩ := seqOf_at ok hx e1
      exact sl_list pins s σ H _ v vl vu lo hi sl Q I rx hs pl pu ⟨a, vs, rfl, h1, fun p hp => q A _ _ (.new ok hp) (new_lst ok hp (cut_rel h2 lo hi))⟩
theorem se_slice {f : FE} {g h : FO} {lo hi : Option Expr} {p2 : Pos} (he : SE X W ca e f) (hl : SO X W ca lo g) (hu : SO X W ca hi h) : SE X W ca (.Subscript e (.Slice lo hi none p2) pos) (fSl f g h) := by
  refine se_of (pe_slice sld he.pe hl.po hu.po) fun σ H Q ⟨A, Z, S, ρ, ok, sl, p⟩ => ?_
  refine ⟨A, Z, S, ρ, ok, sl, (Post.split p).imp fun B T I d gr q v rv => ?_⟩
  refine ⟨B, Z, T, ρ, gr.ok, sl.grow gr, (Post.split q).imp fun C U J l gr2 q2 => ?_⟩
  refine ⟨C, Z, U, ρ, gr2.ok, (sl.grow gr).grow gr2, (Post.split q2).imp fun C3 U3 J3 m gr3 q3 => ?_⟩
  cases e1 : slD d l m U3 with
  | none => rw [e1] at q3; exact q3.elim
  | some r =>
    rw [e1] at q3
    exact ⟨C3, Z, U3, d, r, gr3.ok, (rv.grow gr2).grow gr3, e1, fun B I v g r => q3 B I g v r⟩
/-! -n, ~n -/
def fNeg (f : FE) : FE := fun ρ S => (f ρ S).bind fun d S1 => match d with
  | .int i => .ok (.int (-i)) S1
  | _ => .bad
theorem se_neg {f : FE} (h : SE X W ca e f) : SE X W ca (.UnaryOp .USub e pos) (fNeg f) := by
  refine se_of (pe_un un_neg h.pe) fun σ H Q ⟨A, Z, S, ρ, ok, sl, p⟩ => ?_
  refine ⟨A, Z, S, ρ, ok, sl, (Post.split p).imp fun B T I d gr q v rv => ?_⟩
  cases d with
  | int i =>
    cases rv
    exact ⟨i, rfl, q B I (.refl gr.ok) _ (.int _)⟩
  | _ => exact q.elim
/-! ### calls of built-ins -/
abbrev OpN := List D → Sto → Option D
def rDs (K : PySem.W.Frag) (g : OpN) : List V → Hp → VK → Prop := fun vs H Q => ∃ A Z S ds d, SOk K A Z S H ∧ DRs A (cut A Z S H) K vs ds ∧ g ds S = some d ∧ ∀ B I v, Grow K Z A S H B S I → DR B (cut B Z S I) K v d → Q v I
def fCB (g : OpN) (f : FA) : FE := fun ρ S => (f ρ S).bind fun ds S1 => okO (g ds S1) S1
theorem tE_cb {K : PySem.W.Frag} {g : OpN} {f : FA} {σ : L2.St} {H : Hp} {Q : VK} (h : tE K W ca (fCB g f) σ H Q) : tCB (rDs K g) (tA K W ca f) σ H Q := by
  obtain ⟨A, Z, S, ρ, ok, sl, p⟩ := h
  refine ⟨A, Z, S, ρ, ok, sl, (Post.split p).imp fun B T I ds gr q vs rv => ?_⟩
  cases e : g ds T with
  | none => rw [e] at q; exact q.elim
  | some d =>
    rw [e] at q
    exact ⟨B, Z, T, ds, d, gr.ok, rv, e, fun B I v g r => q B I g v r⟩
theorem se_callB {id : String} {x : Str} {p : Pos} {g : OpN} {f : FA} (hc : CallR X (.builtin id) (rDs X.K g)) (hg : Gl X x) (hm : X.mg x = none) (hv : bootBuiltins x = some (.builtin id)) (ha : SA X W ca (e :: es) f) (hn : x ≠ "__name__" := by decide) (hdb : (x == ("__debug__" : Str)) = false := by decide)
    (he : starEach (e :: es) X.env = (false, eval e X.env) :: starEach es X.env := by rfl) (hpl : (backTo pos (starEach es X.env)).any (·.1) = false := by rfl) : SE X W ca (.Call (.Name x p) (e :: es) [] pos) (fCB g f) :=
  se_of (pe_callB hc hg hm hv ha.pa hn hdb he hpl) fun _ _ _ h => tE_cb h
theorem se_callTy {T : String} {x : Str} {p : Pos} {g : OpN} {f : FA} (hc : CallR X (.type T) (rDs X.K g)) (hg : Gl X x) (hm : X.mg x = none) (hv : bootBuiltins x = some (.type T)) (ha : SA X W ca (e :: es) f) (hn : x ≠ "__name__" := by decide) (hdb : (x == ("__debug__" : Str)) = false := by decide)
    (he : starEach (e :: es) X.env = (false, eval e X.env) :: starEach es X.env := by rfl) (hpl : (backTo pos (starEach es X.env)).any (·.1) = false := by rfl) : SE X W ca (.Call (.Name x p) (e :: es) [] pos) (fCB g f) :=
  se_of (pe_callTy hc hg hm hv ha.pa hn hdb he hpl) fun _ _ _ h => tE_cb h
theorem se_callBfun {id : String} {x : Str} {p : Pos} {g : OpN} {f : FA} (hc : CallR X (.builtin id) (rDs X.K g)) (hg : Gl X x) (hm : X.mg x = some (.builtin id)) (ha : SA X W ca (e :: es) f) (hdb : (x == ("__debug__" : Str)) = false := by decide)
    (he : starEach (e :: es) X.env = (false, eval e X.env) :: starEach es X.env := by rfl) (hpl : (backTo pos (starEach es X.env)).any (·.1) = false := by rfl) : SE X W ca (.Call (.Name x p) (e :: es) [] pos) (fCB g f) :=
  se_of (L2.pe_callBfun hc hg hm ha.pa hdb he hpl) fun _ _ _ h => tE_cb h
def lenD : OpN := fun ds S => match ds with
  | [.str z] => if z.length ≤ capN then some (.int z.length) else none
  | [.tup xs] => some (.int xs.length)
  | [d] => (seqOf S d).map fun xs => .int xs.length
  | _ => none
theorem cd_len : CallR X (.builtin "len") (rDs X.K lenD) := by
  intro pins s σ H vs us Q I r ⟨A, Z, S, ds, d, ok, h, e, q⟩
  unfold lenD at e
  split at e
  · cases h with
    | cons h1 h2 =>
      cases h1; cases h2
      split at e
      · rename_i z hc
        cases e
        exact call_len_str pins s σ H _ us Q I r ⟨z, rfl, capN_le hc, q A H _ (.refl ok) (.int _)⟩
      · cases e
  · cases e
    cases h with
    | cons h1 h2 =>
      cases h2
      obtain ⟨a, ws, rfl, k1, k2⟩ := tup_at h1
      exact call_len_seq pins s σ H _ us Q I r ⟨a, ws, rfl, .inr k1, by rw [k2.length]; exact q A H _ (.refl ok) (.int _)⟩
  · rename_i d' _ _
    cases e1 : seqOf S d' with
    | none => rw [e1] at e; cases e
    | some xs =>
      rw [e1] at e
      cases e
      cases h with
      | cons h1 h2 =>
        cases h2
        obtain ⟨a, ws, rfl, k1, k2⟩ := seqOf_at ok h1 e1
        exact call_len_seq pins s σ H _ us Q I r ⟨a, ws, rfl, .inl k1, by rw [k2.length]; exact q A H _ (.refl ok) (.int _)⟩
  · cases e
def absD : OpN := fun ds _ => match ds with
  | [.int i] => some (.int (if i < 0 then -i else i))
  | _ => none
theorem cd_abs : CallR X (.builtin "abs") (rDs X.K absD) := by
  intro pins s σ H vs us Q I r ⟨A, Z, S, ds, d, ok, h, e, q⟩
  unfold absD at e
  split at e
  · cases e
    cases h with
    | cons h1 h2 =>
      cases h1; cases h2
      exact call_abs pins s σ H _ us Q I r ⟨_, rfl, q A H _ (.refl ok) (.int _)⟩
  · cases e
def intD : OpN := fun ds _ => match ds with
  | [.int i] => some (.int i)
  | [.bl b] => some (.int (if b then 1 else 0))
  | _ => none
theorem cd_int : CallR X (.type "int") (rDs X.K intD) := by
  intro pins s σ H vs us Q I r ⟨A, Z, S, ds, d, ok, h, e, q⟩
  unfold intD at e
  split at e
  · cases e
    cases h with
    | cons h1 h2 =>
      cases h1; cases h2
      exact call_int1 pins s σ H _ us Q I r (.inl ⟨_, rfl, q A H _ (.refl ok) (.int _)⟩)
  · cases e
    cases h with
    | cons h1 h2 =>
      cases h1; cases h2
      exact call_int1 pins s σ H _ us Q I r (.inr ⟨_, rfl, q A H _ (.refl ok) (.int _)⟩)
  · cases e
def gcdD : OpN := fun ds _ => match ds with
  | [.int i, .int j] => some (.int ((Nat.gcd i.natAbs j.natAbs : Nat) : Int))
  | _ => none
theorem cd_gcd : CallR X (.builtin "math.gcd") (rDs X.K gcdD) := by
  intro pins s σ H vs us Q I r ⟨A, Z, S, ds, d, ok, h, e, q⟩
  unfold gcdD at e
  split at e
  · cases e
    cases h with
    | cons h1 h2 =>
      cases h1
      cases h2 with
      | cons h3 h4 =>
        cases h3; cases h4
        exact cr_gcd pins s σ H _ us Q I r ⟨_, _, rfl, q A H _ (.refl ok) (.int _)⟩
  · cases e
/-- the greatest of a list of ints -/
def maxI : List Int → Int
  | [] => 0
  | [x] => x
  | x :: y :: r => let m := maxI (y :: r); if m > x then m else x
theorem maxI_mem : ∀ {l : List Int}, 0 < l.length → maxI l ∈ l ∧ ∀ y ∈ l, y ≤ maxI l
  | [], h => by simp at h
  | [x], _ => by simp [maxI]
  | x :: y :: r, _ => by
    have ih := maxI_mem (l := y :: r) (by simp)
    show (if maxI (y :: r) > x then maxI (y :: r) else x) ∈ x :: y :: r ∧ ∀ z ∈ x :: y :: r, z ≤ (if maxI (y :: r) > x then maxI (y :: r) else x)
    split
    · refine ⟨List.mem_cons_of_mem _ ih.1, fun z hz => ?_⟩
      rcases List.mem_cons.mp hz with rfl | hz
      · omega
      · exact ih.2 z hz
    · refine ⟨List.mem_cons_self, fun z hz => ?_⟩
      rcases List.mem_cons.mp hz with rfl | hz
      · omega
      · have := ih.2 z hz
        omega
def maxD : OpN := fun ds S => match ds with
  | [.int i, .int j] => some (.int (if j > i then j else i))
  | [.tup xs] => none
  | [d] => match (seqOf S d).bind intsOf with
    | some ns => if 0 < ns.length then some (.int (maxI ns)) else none
    | none => none
  | _ => none
theorem cd_max (hc : X.calm = true) : CallR X (.builtin "max") (rDs X.K maxD) := by
  intro pins s σ H vs us Q I r ⟨A, Z, S, ds, d, ok, h, e, q⟩
  unfold maxD at e
  split at e
  · cases e
    cases h with
    | cons h1 h2 =>
      cases h1
      cases h2 with
      | cons h3 h4 =>
        cases h3; cases h4
        exact call_max2 hc pins s σ H _ us Q I r ⟨_, _, rfl, q A H _ (.refl ok) (.int _)⟩
  · cases e
  · rename_i d' _
    cases e1 : seqOf S d' with
    | none => rw [e1] at e; cases e
    | some xs =>
      rw [e1] at e
      simp only [Option.bind_some] at e
      cases e2 : intsOf xs with
      | none => rw [e2] at e; cases e
      | some ns =>
        rw [e2] at e
        simp only at e
        split at e
        · rename_i hl
          cases e
          cases h with
          | cons h1 h2 =>
            cases h2
            obtain ⟨a, ws, rfl, k1, k2⟩ := seqOf_at ok h1 e1
            rw [intsOf_map e2 k2] at k1
            refine cr_max hc pins s σ H _ us Q I r ⟨a, ns, rfl, k1, hl, fun m h1 h2 => ?_⟩
            have := maxI_mem hl
            have e3 : m = maxI ns := Int.le_antisymm (this.2 m h1) (h2 _ this.1)
            rw [e3]
            exact q A H _ (.refl ok) (.int _)
        · cases e
  · cases e
def sumD : OpN := fun ds S => match ds with
  | [d] => match (seqOf S d).bind intsOf with
    | some ns => some (.int ns.sum)
    | none => none
  | _ => none
theorem cd_sum (hc : X.calm = true) : CallR X (.builtin "sum") (rDs X.K sumD) := by
  intro pins s σ H vs us Q I r ⟨A, Z, S, ds, d, ok, h, e, q⟩
  unfold sumD at e
  split at e
  · rename_i d'
    cases e1 : seqOf S d' with
    | none => rw [e1] at e; cases e
    | some xs =>
      rw [e1] at e
      simp only [Option.bind_some] at e
      cases e2 : intsOf xs with
      | none => rw [e2] at e; cases e
      | some ns =>
        rw [e2] at e
        cases e
        cases h with
        | cons h1 h2 =>
          cases h2
          obtain ⟨a, ws, rfl, k1, k2⟩ := seqOf_at ok h1 e1
          rw [intsOf_map e2 k2] at k1
          exact cr_sum hc pins s σ H _ us Q I r ⟨a, ns, rfl, k1, q A H _ (.refl ok) (.int _)⟩
  · cases e
def tupleD : OpN := fun ds S => match ds with
  | [.tup xs] => some (.tup xs)
  | [d] => (lstOf S d).map .tup
  | _ => none
theorem cd_tuple : CallR X (.type "tuple") (rDs X.K tupleD) := by
  intro pins s σ H vs us Q I r ⟨A, Z, S, ds, d, ok, h, e, q⟩
  unfold tupleD at e
  split at e
  · cases e
    cases h with
    | cons h1 h2 =>
      cases h2
      obtain ⟨a, ws, rfl, k1, k2⟩ := tup_at h1
      exact call_tuple_of pins s σ H _ us Q I r ⟨a, ws, rfl, .inr ⟨k1, q A H _ (.refl ok) h1⟩⟩
  · rename_i d' _
    cases e1 : lstOf S d' with
    | none => rw [e1] at e; cases e
    | some xs =>
      rw [e1] at e
      cases e
      cases h with
      | cons h1 h2 =>
        cases h2
        obtain ⟨a, ws, rfl, k1, k2⟩ := lstOf_at ok h1 e1
        exact call_tuple_of pins s σ H _ us Q I r ⟨a, ws, rfl, .inl ⟨SqL.of k1, fun p hp => q A _ _ (.new ok hp) (new_tup ok hp k2)⟩⟩
  · cases e
/-- list(x): a new list as data -/
def listD : OpN := fun ds S => match ds with
  | [.tup xs] => some (.lst xs)
  | [d] => (seqOf S d).map .lst
  | _ => none
theorem cd_list : CallR X (.type "list") (rDs X.K listD) := by
  intro pins s σ H vs us Q I r ⟨A, Z, S, ds, d, ok, h, e, q⟩
  unfold listD at e
  split at e
  · cases e
    cases h with
    | cons h1 h2 =>
      cases h2
      obtain ⟨a, ws, rfl, k1, k2⟩ := tup_at h1
      exact call_list_of pins s σ H _ us Q I r ⟨a, ws, rfl, .inr k1, fun p hp => q A _ _ (.new ok hp) (new_lst ok hp k2)⟩
  · rename_i d' _
    cases e1 : seqOf S d' with
    | none => rw [e1] at e; cases e
    | some xs =>
      rw [e1] at e
      cases e
      cases h with
      | cons h1 h2 =>
        cases h2
        obtain ⟨a, ws, rfl, k1, k2⟩ := seqOf_at ok h1 e1
        exact call_list_of pins s σ H _ us Q I r ⟨a, ws, rfl, .inl k1, fun p hp => q A _ _ (.new ok hp) (new_lst ok hp k2)⟩
  · cases e
/-! isinstance(x, T), isinstance(x, (T, U)) -/
def tyD (S : Sto) : D → Option String
  | .non => some "NoneType"
  | .bl _ => some "bool"
  | .int _ => some "int"
  | .str _ => some "str"
  | .lst _ => some "list"
  | .kls _ => some "list"
  | .tup _ => some "tuple"
  | .dct _ => some "dict"
  | .cel i => (lstOf S (.cel i)).map fun _ => "list"
  | .fn _ => none
def tyNames : List String := ["NoneType", "bool", "int", "str", "list", "tuple", "dict"]
theorem tyD_mem {S : Sto} {d : D} {t : String} (h : tyD S d = some t) : t ∈ tyNames := by
  cases d with
  | cel i =>
    simp only [tyD] at h
    cases e : lstOf S (.cel i) with
    | none => rw [e] at h; cases h
    | some _ => rw [e] at h; cases h; show "list" ∈ tyNames; decide
  | fn _ => cases h
  | _ => cases h; decide
theorem tyx_at {K : PySem.W.Frag} {A Z : List Addr} {S : Sto} {H : Hp} {v : V} {d : D} {t : String} (ok : SOk K A Z S H) (r : DR A (cut A Z S H) K v d) (h : tyD S d = some t) : TyX K H v (.type t) := by
  cases r with
  | non => cases h; exact .base .non
  | bl b => cases h; exact .base (.bl b)
  | int i => cases h; exact .base (.int i)
  | str x => cases h; exact .base (.str x)
  | lst h1 _ => cases h; exact .base (.lst (cut_sub h1))
  | kls h1 _ =>
    cases h
    rcases h1 with (h1 | ⟨o, h1⟩) | ⟨o, its, n, h1, h2, _⟩
    · exact .base (.lst (cut_sub h1))
    · exact .base (.frz (cut_sub h1))
    · exact .kList h1 h2
  | tup h1 _ =>
    cases h
    rcases h1 with (h1 | ⟨o, h1⟩) | ⟨o, its, n, h1, h2, _⟩
    · exact .base (.tup (cut_sub h1))
    · exact .fTuple (cut_sub h1)
    · exact .kTuple h1 h2
  | dct0 h1 => cases h; exact .base (.dK (cut_sub h1))
  | @cel a i h1 =>
    simp only [tyD] at h
    cases e : lstOf S (.cel i) with
    | none => rw [e] at h; cases h
    | some xs =>
      rw [e] at h
      cases h
      obtain ⟨a', vs, e2, k1, _⟩ := lstOf_at ok (.cel h1) e
      cases e2
      exact .base (.lst k1)
  | fn _ => cases h
def isiB (t T : String) : Bool := t == T || (t == "bool" && T == "int")
def isiOk (T : String) : Bool := tyNames.all fun t => kitB t T == some (isiB t T)
theorem isiOk_at {t T : String} (h : isiOk T = true) (m : t ∈ tyNames) : kitB t T = some (isiB t T) := by
  have := List.all_eq_true.mp h t m
  simpa using this
def fIsi (T : String) (f : FE) : FE := fun ρ S => (f ρ S).bind fun d S1 => match tyD S1 d with
  | some t => .ok (.bl (isiB t T)) S1
  | none => .bad
theorem se_isi {T : String} {x : Str} {p p1 : Pos} {f : FE} (h : SE X W ca e f) (hT : isiOk T = true) (hx : bootBuiltins x = some (.type T)) (hmx : X.mg x = none) (hgx : Gl X x) (hg : Gl X "isinstance") (hm : X.mg "isinstance" = none)
    (hn : x ≠ "__name__" := by decide) (hd : (x == ("__debug__" : Str)) = false := by decide)
    (hs : starEach [e, .Name x p1] X.env = (false, eval e X.env) :: starEach [.Name x p1] X.env := by rfl) : SE X W ca (.Call (.Name "isinstance" p) [e, .Name x p1] [] pos) (fIsi T f) := by
  refine se_of (pe_callB call_isi hg hm boot_isinstance (pa_cons h.pe (pa_cons (pe_bltn (v := .ty T) hgx hmx hx rfl hn hd) pa_nil) hs) (by decide) (by decide) hs (by rfl)) fun σ H Q ⟨A, Z, S, ρ, ok, sl, p⟩ => ?_
  refine ⟨A, Z, S, ρ, ok, sl, (Post.split p).imp fun B U I d gr q v rv => ?_⟩
  cases e1 : tyD U d with
  | none => rw [e1] at q; exact q.elim
  | some t =>
    rw [e1] at q
    exact ⟨v, .ty T, .type t, .type T, isiB t T, rfl, .ty T, tyx_at gr.ok rv e1, kit_ty (isiOk_at hT (tyD_mem e1)), q B I (.refl gr.ok) _ (.bl _)⟩
def fIsi2 (T U : String) (f : FE) : FE := fun ρ S => (f ρ S).bind fun d S1 => match tyD S1 d with
  | some t => .ok (.bl (isiB t T || isiB t U)) S1
  | none => .bad
theorem se_isi2 {T U : String} {x y : Str} {k : Nat} {p p1 p2 p3 : Pos} {f : FE} (h : SE X W ca e f) (hT : isiOk T = true) (hU : isiOk U = true) (hx : bootBuiltins x = some (.type T)) (hmx : X.mg x = none) (hgx : Gl X x) (hy : bootBuiltins y = some (.type U)) (hmy : X.mg y = none) (hgy : Gl X y)
    (hg : Gl X "isinstance") (hm : X.mg "isinstance" = none)
    (hn : x ≠ "__name__" := by decide) (hd : (x == ("__debug__" : Str)) = false := by decide) (hn2 : y ≠ "__name__" := by decide) (hd2 : (y == ("__debug__" : Str)) = false := by decide)
    (hs : starEach [e, .Tuple [.Name x p1, .Name y p2] k p3] X.env = (false, eval e X.env) :: starEach [.Tuple [.Name x p1, .Name y p2] k p3] X.env := by rfl) : SE X W ca (.Call (.Name "isinstance" p) [e, .Tuple [.Name x p1, .Name y p2] k p3] [] pos) (fIsi2 T U f) := by
  refine se_of (pe_callB call_isiT hg hm boot_isinstance (pa_cons h.pe (pa_cons (pe_tup (pa_cons (pe_bltn (v := .ty T) hgx hmx hx rfl hn hd) (pa_cons (pe_bltn (v := .ty U) hgy hmy hy rfl hn2 hd2) pa_nil))) pa_nil) hs) (by decide) (by decide) hs (by rfl)) fun σ H Q ⟨A, Z, S, ρ, ok, sl, p⟩ => ?_
  refine ⟨A, Z, S, ρ, ok, sl, (Post.split p).imp fun B R I d gr q v rv => ?_⟩
  cases e1 : tyD R d with
  | none => rw [e1] at q; exact q.elim
  | some t =>
    rw [e1] at q
    refine ⟨(by show 2 ≤ sizeLine; decide), fun tp ht => ?_⟩
    refine ⟨v, tp, [.ty T, .ty U], .type t, [.type T, .type U], isiB t T || isiB t U, rfl, upd_same, .cons (.ty T) (.cons (.ty U) .nil), ?_, ?_, q B _ (.new gr.ok ht) _ (.bl _)⟩
    · exact tyx_at (gr.ok.new ht) (rv.mono (List.prefix_refl _) (cut_upd ht)) e1
    · refine kitAny_cons (kit_ty (isiOk_at hT (tyD_mem e1))) (fun e2 => ?_) (fun e2 => by rw [e2]; rfl)
      rw [e2, Bool.false_or]
      exact kitAny_cons (kit_ty (isiOk_at hU (tyD_mem e1))) (fun e3 => by rw [e3]; rfl) (fun e3 => e3)
end
end DL

set_option maxHeartbeats 2000000
namespace DL
open PySem PySem.Spec PyProof.Rows L2
/-! ### statements -/
inductive Fl where
  | nx
  | rt (d : D)
  | bk
  | ct
abbrev FS := Env → Sto → Res (Fl × Env)
def EndF (K : PySem.W.Frag) (Dn : Ends) (Z : List Addr) (B : List Addr) (T : Sto) (I : Hp) (r : Fl × Env) : Prop :=
  match r.1 with
  | .nx => ∀ σ', Sl K B (cut B Z T I) r.2 σ' → Dn.nx σ' I
  | .rt d => ∀ v, DR B (cut B Z T I) K v d → Dn.rt v I
  | .bk => ∀ σ', Sl K B (cut B Z T I) r.2 σ' → Dn.bk σ' I
  | .ct => ∀ σ', Sl K B (cut B Z T I) r.2 σ' → Dn.ct σ' I
def tS (K : PySem.W.Frag) (W : WX) (ca : Str → Addr) (f : FS) : TS := fun Dn σ H => ∃ A Z S ρ, SOk K A Z S H ∧ Sl K A (cut A Z S H) ρ σ ∧ Post K W ca A Z S H σ (f ρ S) (EndF K Dn Z)
structure SS (X : Cx) (W : WX) (ca : Str → Addr) (st : Stmt) (f : FS) : Prop where
  ps : PS X st (tS X.K W ca f)
structure SSs (X : Cx) (W : WX) (ca : Str → Addr) (st : List Stmt) (f : FS) : Prop where
  pss : PSs X st (tS X.K W ca f)
section
variable {X : Cx} {W : WX} {ca : Str → Addr} {e a b : Expr} {es : List Expr} {pos : Pos} {st : Stmt} {rest : List Stmt}
theorem ps_imp {t t' : TS} (h : PS X st t) (i : ∀ D σ H, t' D σ H → t D σ H) : PS X st t' := ⟨fun pins s σ H D I q => h.run pins s σ H D I (i _ _ _ q)⟩
theorem pss_imp {sts : List Stmt} {t t' : TS} (h : PSs X sts t) (i : ∀ D σ H, t' D σ H → t D σ H) : PSs X sts t' := ⟨fun pins s σ H D I q => h.run pins s σ H D I (i _ _ _ q)⟩
theorem ss_of {f : FS} {t : TS} (h : PS X st t) (i : ∀ D σ H, tS X.K W ca f D σ H → t D σ H) : SS X W ca st f := ⟨ps_imp h i⟩
def fNext : FS := fun ρ S => .ok (.nx, ρ) S
def fSeq (f g : FS) : FS := fun ρ S => (f ρ S).bind fun r S1 => match r.1 with
  | .nx => g r.2 S1
  | _ => .ok r S1
theorem sss_nil : SSs X W ca [] fNext := ⟨pss_imp pss_nil fun D σ H ⟨A, Z, S, ρ, ok, sl, p⟩ => p A H (.refl ok) σ sl⟩
theorem tS_seq {K : PySem.W.Frag} {f g : FS} {D : Ends} {σ : L2.St} {H : Hp} (h : tS K W ca (fSeq f g) D σ H) : tSeq (tS K W ca f) (tS K W ca g) D σ H := by
  obtain ⟨A, Z, S, ρ, ok, sl, p⟩ := h
  refine ⟨A, Z, S, ρ, ok, sl, (Post.split p).imp fun B T I r gr q => ?_⟩
  obtain ⟨fl, ρ'⟩ := r
  cases fl with
  | nx => exact fun σ' sl' => ⟨B, Z, T, ρ', gr.ok, sl', q.sig σ'⟩
  | rt d => exact q B I (.refl gr.ok)
  | bk => exact q B I (.refl gr.ok)
  | ct => exact q B I (.refl gr.ok)
theorem sss_cons {f g : FS} (h1 : SS X W ca st f) (h2 : SSs X W ca rest g) : SSs X W ca (st :: rest) (fSeq f g) := ⟨pss_imp (pss_cons h1.ps h2.pss) fun _ _ _ h => tS_seq h⟩
theorem sss_one {f : FS} (h1 : SS X W ca st f) : SSs X W ca [st] f := ⟨pss_one h1.ps⟩
theorem ss_pass : SS X W ca (.Pass pos) fNext := ss_of ps_pass fun D σ H ⟨A, Z, S, ρ, ok, sl, p⟩ => p A H (.refl ok) σ sl
theorem ss_break : SS X W ca (.Break pos) (fun ρ S => .ok (.bk, ρ) S) := ss_of ps_break fun D σ H ⟨A, Z, S, ρ, ok, sl, p⟩ => p A H (.refl ok) σ sl
theorem ss_continue : SS X W ca (.Continue pos) (fun ρ S => .ok (.ct, ρ) S) := ss_of ps_continue fun D σ H ⟨A, Z, S, ρ, ok, sl, p⟩ => p A H (.refl ok) σ sl
theorem ss_doc {x j pos'} : SS X W ca (.Expr (.Constant (.str x) j pos) pos') fNext := ss_of ps_doc fun D σ H ⟨A, Z, S, ρ, ok, sl, p⟩ => p A H (.refl ok) σ sl
/-- a statement that is not reached -/
theorem ss_never : SS X W ca st (fun _ _ => .bad) := ss_of ps_never fun D σ H ⟨_, _, _, _, _, _, p⟩ => p
def fRet (f : FE) : FS := fun ρ S => (f ρ S).bind fun d S1 => .ok (.rt d, ρ) S1
theorem ss_ret {f : FE} (h : SE X W ca e f) : SS X W ca (.Return (some e) pos) (fRet f) := ss_of (ps_ret h.pe) fun D σ H ⟨A, Z, S, ρ, ok, sl, p⟩ =>
  ⟨A, Z, S, ρ, ok, sl, (Post.split p).imp fun B T I d gr q v rv => q B I (.refl gr.ok) v rv⟩
theorem ss_retN : SS X W ca (.Return none pos) (fun ρ S => .ok (.rt .non, ρ) S) := ss_of ps_retN fun D σ H ⟨A, Z, S, ρ, ok, sl, p⟩ => p A H (.refl ok) _ .non
/-- the value handed back is a list that may change: from now on it is data -/
def frzD (S : Sto) (d : D) : Option (D × Sto) := match d with
  | .cel i => match S[i]? with
    | some (.lst xs) => some (.lst xs, S.set i .gone)
    | _ => none
  | _ => none
def fRetF (f : FE) : FS := fun ρ S => (f ρ S).bind fun d S1 => match frzD S1 d with
  | some (d', S2) => .ok (.rt d', ρ) S2
  | none => .bad
theorem frzD_at {K : PySem.W.Frag} {A Z : List Addr} {S S' : Sto} {H : Hp} {v : V} {d d' : D} (ok : SOk K A Z S H) (r : DR A (cut A Z S H) K v d) (h : frzD S d = some (d', S')) : Grow K Z A S H A S' H ∧ DR A (cut A Z S' H) K v d' := by
  unfold frzD at h
  split at h
  · rename_i i
    split at h
    · rename_i xs e
      cases h
      obtain ⟨g, a, vs, h1, h2, h3⟩ := Grow.freeze ok e
      cases r with
      | cel h4 =>
        rw [h1] at h4
        cases h4
        exact ⟨g, .lst h2 h3⟩
    · cases h
  · cases h
theorem ss_retF {f : FE} (h : SE X W ca e f) : SS X W ca (.Return (some e) pos) (fRetF f) := ss_of (ps_ret h.pe) fun D σ H ⟨A, Z, S, ρ, ok, sl, p⟩ => by
  refine ⟨A, Z, S, ρ, ok, sl, (Post.split p).imp fun B T I d gr q v rv => ?_⟩
  cases e1 : frzD T d with
  | none => rw [e1] at q; exact q.elim
  | some r =>
    rw [e1] at q
    obtain ⟨g2, r2⟩ := frzD_at gr.ok rv e1
    exact q B I g2 v r2
/-! targets -/
abbrev FG := D → Env → Sto → Res Env
def tG (K : PySem.W.Frag) (W : WX) (ca : Str → Addr) (f : FG) : TG := fun v σ H Q => ∃ A Z S ρ d, SOk K A Z S H ∧ Sl K A (cut A Z S H) ρ σ ∧ DR A (cut A Z S H) K v d ∧ Post K W ca A Z S H σ (f d ρ S) fun B T I ρ' => ∀ σ', Sl K B (cut B Z T I) ρ' σ' → Q σ' I
structure SG (X : Cx) (W : WX) (ca : Str → Addr) (tg : Expr) (f : FG) : Prop where
  pg : PG X tg (tG X.K W ca f)
theorem pg_imp {tg : Expr} {t t' : TG} (h : PG X tg t) (i : ∀ v σ H Q, t' v σ H Q → t v σ H Q) : PG X tg t' := ⟨fun pins s σ H v u Q I r q => h.run pins s σ H v u Q I r (i _ _ _ _ q)⟩
def fgName (i : Nat) : FG := fun d ρ S => .ok (ρ.set i (some d)) S
theorem sg_name {i : Nat} {x : Str} (hN : X.N.Nodup) (hi : X.N[i]? = some x) (hx : Loc X.env.scope x) (hf : X.fn x = true ∨ X.env.scope.names.lookup x = some .local := by first | exact .inl rfl | exact .inr rfl | assumption) : SG X W ca (.Name x pos) (fgName i) :=
  ⟨pg_imp (pg_name hN hi hx hf) fun v σ H Q ⟨A, Z, S, ρ, d, ok, sl, rv, p⟩ => p A H (.refl ok) _ (sl.set rv i)⟩
abbrev FGs := List D → Env → Sto → Res Env
def tGs (K : PySem.W.Frag) (W : WX) (ca : Str → Addr) (f : FGs) : TGs := fun vs σ H Q => ∃ A Z S ρ ds, SOk K A Z S H ∧ Sl K A (cut A Z S H) ρ σ ∧ DRs A (cut A Z S H) K vs ds ∧ Post K W ca A Z S H σ (f ds ρ S) fun B T I ρ' => ∀ σ', Sl K B (cut B Z T I) ρ' σ' → Q σ' I
structure SGs (X : Cx) (W : WX) (ca : Str → Addr) (tgs : List Expr) (f : FGs) : Prop where
  pgs : PGs X tgs (tGs X.K W ca f)
theorem pgs_imp {tgs : List Expr} {t t' : TGs} (h : PGs X tgs t) (i : ∀ v σ H Q, t' v σ H Q → t v σ H Q) : PGs X tgs t' := ⟨fun pins s σ H v u Q I r q => h.run pins s σ H v u Q I r (i _ _ _ _ q)⟩
def fgNil : FGs := fun ds ρ S => match ds with
  | [] => .ok ρ S
  | _ => .bad
def fgCons (f : FG) (g : FGs) : FGs := fun ds ρ S => match ds with
  | d :: r => (f d ρ S).bind fun ρ1 S1 => g r ρ1 S1
  | _ => .bad
theorem sgs_nil : SGs X W ca [] fgNil := ⟨pgs_imp pgs_nil fun vs σ H Q ⟨A, Z, S, ρ, ds, ok, sl, rv, p⟩ => by
  cases ds with
  | nil => cases rv; exact ⟨rfl, p A H (.refl ok) σ sl⟩
  | cons _ _ => exact p.elim⟩
theorem sgs_cons {es : List Expr} {f : FG} {g : FGs} (h1 : SG X W ca e f) (h2 : SGs X W ca es g)
    (hs : (assignEach (e :: es) X.env).map (·.2) = assign e X.env :: (assignEach es X.env).map (·.2) := by rfl) : SGs X W ca (e :: es) (fgCons f g) := ⟨pgs_imp (pgs_cons h1.pg h2.pgs hs) fun vs σ H Q ⟨A, Z, S, ρ, ds, ok, sl, rv, p⟩ => by
  cases ds with
  | nil => exact p.elim
  | cons d r =>
    cases rv with
    | cons r1 r2 =>
      exact ⟨_, _, rfl, A, Z, S, ρ, d, ok, sl, r1, (Post.split p).imp fun B T I ρ1 gr q σ' sl' => ⟨B, Z, T, ρ1, r, gr.ok, sl', r2.grow gr, q.sig σ'⟩⟩⟩
def fgTup (n : Nat) (f : FGs) : FG := fun d ρ S => match d with
  | .tup xs => if xs.length = n then f xs ρ S else .bad
  | _ => .bad
theorem sg_tup {es : List Expr} {k : Nat} {f : FGs} {n : Nat} (hc : X.calm = true) (h : SGs X W ca es f)
    (hn : (assignEach es X.env).length = n := by rfl) (hst : (assignEach es X.env).findIdx? (·.1) = none := by rfl) : SG X W ca (.Tuple es k pos) (fgTup n f) := ⟨pg_imp (pg_tup hc h.pgs hn hst) fun v σ H Q ⟨A, Z, S, ρ, d, ok, sl, rv, p⟩ => by
  cases d with
  | tup xs =>
    unfold fgTup at p
    simp only at p
    split at p
    · rename_i hl
      obtain ⟨a, vs, rfl, h1, h2⟩ := tup_at rv
      exact ⟨a, vs, rfl, h1, by rw [h2.length]; exact hl, A, Z, S, ρ, xs, ok, sl, h2, p⟩
    · exact p.elim
  | _ => exact p.elim⟩
/-- o[i] = .., o a list that may change -/
def setD (o i d : D) (S : Sto) : Option Sto := match o, i with
  | .cel k, .int j => match S[k]? with
    | some (.lst xs) => (ixN xs.length j).map fun n => S.set k (.lst (xs.set n d))
    | _ => none
  | _, _ => none
def fgSub (fo fi : FE) : FG := fun d ρ S => (fo ρ S).bind fun o S1 => (fi ρ S1).bind fun i S2 => match setD o i d S2 with
  | some S3 => .ok ρ S3
  | none => .bad
theorem sg_sub {o i : Expr} {fo fi : FE} (ho : SE X W ca o fo) (hi : SE X W ca i fi)
    (ha : ∀ v, assign (.Subscript o i pos) X.env v = (do
      let ov ← holding [v] (eval o X.env)
      let iv ← holding [v, ov] (eval i X.env)
      standAt pos
      holding [v, ov, iv] (setItem ov iv v)
      release [v, ov, iv] []) := by intro _; rfl) : SG X W ca (.Subscript o i pos) (fgSub fo fi) := ⟨pg_imp (pg_sub ho.pe hi.pe set_list ha) fun v σ H Q ⟨A, Z, S, ρ, d, ok, sl, rv, p⟩ => by
  refine ⟨A, Z, S, ρ, ok, sl, (Post.split p).imp fun B T I o' gr q w rw_ => ?_⟩
  refine ⟨B, Z, T, ρ, gr.ok, sl.grow gr, (Post.split q).imp fun C U J i' gr2 q2 x rx => ?_⟩
  cases e : setD o' i' d U with
  | none => rw [e] at q2; exact q2.elim
  | some S3 =>
    rw [e] at q2
    unfold setD at e
    split at e
    · rename_i k j
      split at e
      · rename_i xs e1
        cases e2 : ixN xs.length j with
        | none => rw [e2] at e; cases e
        | some n =>
          rw [e2] at e
          cases e
          cases rx
          obtain ⟨a, vs, e3, h1, h2⟩ := lstOf_at gr2.ok (rw_.grow gr2) (show lstOf U (.cel k) = some xs by simp only [lstOf, e1])
          cases rw_ with
          | cel h4 =>
            cases e3
            have h5 : C[k]? = some a := by
              have := (DR.cel (G := cut B Z T I) (K := X.K) h4).grow gr2
              cases this with
              | cel h => exact h
            refine ⟨a, vs, j, n, rfl, rfl, h1, by rw [h2.length]; exact e2, ?_⟩
            have g3 := Grow.store gr2.ok e1 h5 (h2.set ((rv.grow gr).grow gr2) n)
            exact q2 C _ g3 σ (((sl.grow gr).grow gr2).grow g3)
      · cases e
    · cases e⟩
def fAsg (f : FE) (g : FG) : FS := fun ρ S => (f ρ S).bind fun d S1 => (g d ρ S1).bind fun ρ1 S2 => .ok (.nx, ρ1) S2
theorem tS_asg {K : PySem.W.Frag} {f : FE} {g : FG} {D : Ends} {σ : L2.St} {H : Hp} (h : tS K W ca (fAsg f g) D σ H) : tAsg (tE K W ca f) (tG K W ca g) D σ H := by
  obtain ⟨A, Z, S, ρ, ok, sl, p⟩ := h
  refine ⟨A, Z, S, ρ, ok, sl, (Post.split p).imp fun B T I d gr q v rv => ?_⟩
  exact ⟨B, Z, T, ρ, d, gr.ok, sl.grow gr, rv, (Post.split q).imp fun C U J ρ1 gr2 q2 σ' sl' => q2 C J (.refl gr2.ok) σ' sl'⟩
theorem ss_asg {tg : Expr} {f : FE} {g : FG} (he : SE X W ca e f) (hg : SG X W ca tg g) (hs : swapsWithSole [tg] e pos.line X.env = pure false := by rfl) (hw : swappedStores [tg] e X.env = pure none := by rfl)
    (h1 : (assignEach [tg] X.env).map (·.2) = [assign tg X.env] := by rfl) : SS X W ca (.Assign [tg] e pos) (fAsg f g) := ss_of (ps_asg he.pe hg.pg hs hw h1) fun _ _ _ h => tS_asg h
theorem ss_set {i : Nat} {x : Str} {e : Expr} {f : FE} {pos' : Pos} (hN : X.N.Nodup) (hi : X.N[i]? = some x) (hx : Loc X.env.scope x) (he : SE X W ca e f) (hs : swapsWithSole [.Name x pos'] e pos.line X.env = pure false := by rfl) (hw : swappedStores [.Name x pos'] e X.env = pure none := by rfl) (hf : X.fn x = true ∨ X.env.scope.names.lookup x = some .local := by first | exact .inl rfl | exact .inr rfl | assumption) :
    SS X W ca (.Assign [.Name x pos'] e pos) (fAsg f (fgName i)) := ss_asg he (sg_name hN hi hx hf) hs hw (by rfl)
/-- a, b = e1, e2, two local names -/
def fPar (i j : Nat) (f : FA) : FS := fun ρ S => (f ρ S).bind fun ds S1 => match ds with
  | [x, y] => .ok (.nx, (ρ.set i (some x)).set j (some y)) S1
  | _ => .bad
theorem tS_par {K : PySem.W.Frag} {i j : Nat} {f : FA} {D : Ends} {σ : L2.St} {H : Hp} (h : tS K W ca (fPar i j f) D σ H) : tPar i j (tA K W ca f) D σ H := by
  obtain ⟨A, Z, S, ρ, ok, sl, p⟩ := h
  refine ⟨A, Z, S, ρ, ok, sl, (Post.split p).imp fun B T I ds gr q vs rv => ?_⟩
  match ds, q with
  | [x, y], q =>
    cases rv with
    | cons r1 r2 =>
      cases r2 with
      | cons r2 r3 =>
        cases r3
        exact ⟨_, _, rfl, q B I (.refl gr.ok) _ (((sl.grow gr).set r1 i).set r2 j)⟩
  | [], q => exact q.elim
  | [_], q => exact q.elim
  | _ :: _ :: _ :: _, q => exact q.elim
def fPar3 (i j k : Nat) (f : FA) : FS := fun ρ S => (f ρ S).bind fun ds S1 => match ds with
  | [x, y, z] => .ok (.nx, ((ρ.set i (some x)).set j (some y)).set k (some z)) S1
  | _ => .bad
theorem tS_par3 {K : PySem.W.Frag} {i j k : Nat} {f : FA} {D : Ends} {σ : L2.St} {H : Hp} (h : tS K W ca (fPar3 i j k f) D σ H) : tPar3 i j k (tA K W ca f) D σ H := by
  obtain ⟨A, Z, S, ρ, ok, sl, p⟩ := h
  refine ⟨A, Z, S, ρ, ok, sl, (Post.split p).imp fun B T I ds gr q vs rv => ?_⟩
  match ds, q with
  | [x, y, z], q =>
    cases rv with
    | cons r1 r2 =>
      cases r2 with
      | cons r2 r3 =>
        cases r3 with
        | cons r3 r4 =>
          cases r4
          exact ⟨_, _, _, rfl, q B I (.refl gr.ok) _ ((((sl.grow gr).set r1 i).set r2 j).set r3 k)⟩
  | [], q => exact q.elim
  | [_], q => exact q.elim
  | [_, _], q => exact q.elim
  | _ :: _ :: _ :: _ :: _, q => exact q.elim
/-- e as a statement -/
def fDrop (f : FE) : FS := fun ρ S => (f ρ S).bind fun _ S1 => .ok (.nx, ρ) S1
theorem ss_expr {f : FE} (he : SE X W ca e f) (hs : swapsWith e none pos.line X.env = pure false := by rfl) : SS X W ca (.Expr e pos) (fDrop f) := ss_of (ps_expr he.pe hs) fun D σ H ⟨A, Z, S, ρ, ok, sl, p⟩ =>
  ⟨A, Z, S, ρ, ok, sl, (Post.split p).imp fun B T I d gr q v rv => q B I (.refl gr.ok) σ (sl.grow gr)⟩
/-- x.append(e), x a list that may change -/
def appD (o d : D) (S : Sto) : Option Sto := match o with
  | .cel k => match S[k]? with
    | some (.lst xs) => if xs.length < capN then some (S.set k (.lst (xs ++ [d]))) else none
    | _ => none
  | _ => none
def fApp (fo f : FE) : FE := fun ρ S => (fo ρ S).bind fun o S1 => match lstOf S1 o with
  | some _ => (f ρ S1).bind fun d S2 => match appD o d S2 with
    | some S3 => .ok .non S3
    | none => .bad
  | none => .bad
theorem se_app {o : Expr} {fo f : FE} {apos : Pos} (ho : SE X W ca o fo) (he : SE X W ca e f)
    (hx : PE X (.Call (.Attribute o "append" apos) [e] [] pos) (tBM X.K "list" rAppend (tE X.K W ca fo) (tCons (tE X.K W ca f) tNil))) :
    SE X W ca (.Call (.Attribute o "append" apos) [e] [] pos) (fApp fo f) := by
  refine se_of hx fun σ H Q ⟨A, Z, S, ρ, ok, sl, p⟩ => ?_
  refine ⟨A, Z, S, ρ, ok, sl, (Post.split p).imp fun B T I o' gr q w rw_ => ?_⟩
  cases e0 : lstOf T o' with
  | none => rw [e0] at q; exact q.elim
  | some ys =>
    rw [e0] at q
    obtain ⟨a0, vs0, rfl, h1, _⟩ := lstOf_at gr.ok rw_ e0
    refine ⟨.inl ⟨rfl, _, SqL.of h1⟩, B, Z, T, ρ, gr.ok, sl.grow gr, (Post.split q).imp fun C U J d gr2 q2 x rx => ?_⟩
    cases e : appD o' d U with
    | none => rw [e] at q2; exact q2.elim
    | some S3 =>
      rw [e] at q2
      unfold appD at e
      split at e
      · rename_i k
        split at e
        · rename_i xs e1
          split at e
          · rename_i hc
            cases e
            obtain ⟨a, vs, e3, k1, k2⟩ := lstOf_at gr2.ok (rw_.grow gr2) (show lstOf U (.cel k) = some xs by simp only [lstOf, e1])
            cases e3
            have h5 : C[k]? = some a0 := by
              cases rw_.grow gr2 with
              | cel h => exact h
            refine ⟨a0, vs, x, rfl, rfl, k1, by rw [k2.length]; exact capN_lt hc, ?_⟩
            exact q2 C _ (Grow.store gr2.ok e1 h5 (k2.append (.cons rx .nil))) _ .non
          · cases e
        · cases e
      · cases e
/-! ### if, while -/
def fIfS (t : FT) (f g : FS) : FS := fun ρ S => (t ρ S).bind fun c S1 => if c = true then f ρ S1 else g ρ S1
theorem ss_if {c : Expr} {x y : List Stmt} {t : FT} {f g : FS} (hc : ST_ X W ca c t) (ha : SSs X W ca x f) (hb : SSs X W ca y g) : SS X W ca (.If c x y pos) (fIfS t f g) := by
  refine ss_of (ps_if hc.pt ha.pss hb.pss) fun D σ H ⟨A, Z, S, ρ, ok, sl, p⟩ => ?_
  refine ⟨A, Z, S, ρ, ok, sl, (Post.split p).imp fun B T I c gr q => ?_⟩
  cases c with
  | true => exact iteT ⟨B, Z, T, ρ, gr.ok, sl.grow gr, q⟩
  | false => exact iteF ⟨B, Z, T, ρ, gr.ok, sl.grow gr, q⟩
/-- while, at most so many turns -/
def fWhile (t : FT) (f : FS) : Nat → FS
  | 0 => fun _ _ => .bad
  | n + 1 => fun ρ S => (t ρ S).bind fun c S1 => if c = true then (f ρ S1).bind fun r S2 => match r.1 with
      | .nx => fWhile t f n r.2 S2
      | .ct => fWhile t f n r.2 S2
      | .bk => .ok (.nx, r.2) S2
      | .rt d => .ok (.rt d, r.2) S2
    else .ok (.nx, ρ) S1
theorem ss_while {c : Expr} {x : List Stmt} {t : FT} {f : FS} (n : Nat) (hp : PassesOwn (model X.prog X.w) X.A X.env X.xe) (hc : ST_ X W ca c t) (hb : SSs X W ca x f) : SS X W ca (.While c x [] pos) (fWhile t f n) := by
  refine ss_of (ps_while hp hc.pt hb.pss) fun D σ H ⟨A, Z, S, ρ, ok, sl, p⟩ => ?_
  refine ⟨fun m σ H => tS X.K W ca (fWhile t f m) D σ H, ⟨n, A, Z, S, ρ, ok, sl, p⟩, ?_⟩
  rintro m σ H ⟨A, Z, S, ρ, ok, sl, p⟩
  cases m with
  | zero => exact p.elim
  | succ m =>
    refine ⟨A, Z, S, ρ, ok, sl, (Post.split p).imp fun B T I c gr q => ?_⟩
    cases c with
    | false => exact q B I (.refl gr.ok) σ (sl.grow gr)
    | true =>
      refine ⟨fun σ' H' => tS X.K W ca (fWhile t f m) D σ' H', fun σ' H' h => ⟨m, Nat.lt_succ_self m, h⟩, ?_⟩
      refine ⟨B, Z, T, ρ, gr.ok, sl.grow gr, (Post.split q).imp fun C U J r gr2 q2 => ?_⟩
      obtain ⟨fl, ρ'⟩ := r
      cases fl with
      | nx => exact fun σ' sl' => ⟨C, Z, U, ρ', gr2.ok, sl', q2.sig σ'⟩
      | ct => exact fun σ' sl' => ⟨C, Z, U, ρ', gr2.ok, sl', q2.sig σ'⟩
      | bk => exact q2 C J (.refl gr2.ok)
      | rt d => exact q2 C J (.refl gr2.ok)
/-! ### what is walked -/
structure ItD where
  items : List D
  cell : Option Nat
abbrev FI := Env → Sto → Res ItD
/-- the list that is walked stands as it was -/
def ItAt (it : ItD) (S : Sto) : Prop := ∀ j, it.cell = some j → S[j]? = some (.lst it.items) ∨ S[j]? = some (.lk it.items)
/-- a growth in which more may be hidden -/
structure GrowI (K : PySem.W.Frag) (Z A : List Addr) (S : Sto) (H : Hp) (Zx A' : List Addr) (S' : Sto) (H' : Hp) : Prop where
  pre : A <+: A'
  ok : SOk K A' Zx S' H'
  ex : ∀ b o, cut A Z S H b = some o → cut A' Zx S' H' b = some o
theorem Grow0.toI {K : PySem.W.Frag} {Z A A' : List Addr} {S S' : Sto} {H H' : Hp} (g : Grow0 K Z A S H A' S' H') : GrowI K Z A S H Z A' S' H' := ⟨g.pre, g.ok, g.ex⟩
theorem DR.growI {K : PySem.W.Frag} {Z A Zx A' : List Addr} {S S' : Sto} {H H' : Hp} {v : V} {d : D} (r : DR A (cut A Z S H) K v d) (g : GrowI K Z A S H Zx A' S' H') : DR A' (cut A' Zx S' H') K v d := r.mono g.pre g.ex
structure ItOk (K : PySem.W.Frag) (Z : List Addr) (J : It) (it : ItD) (A : List Addr) (S : Sto) (H : Hp) : Prop where
  here : ItAt it S
  go : ∀ Zx A' S' H' i, GrowI K Z A S H Zx A' S' H' → ItAt it S' → i < it.items.length → J.go i H'
  stop : ∀ Zx A' S' H', GrowI K Z A S H Zx A' S' H' → ItAt it S' → J.stop it.items.length H'
  yld : ∀ Zx A' S' H' i x H'', GrowI K Z A S H Zx A' S' H' → ItAt it S' → J.yld i H' x H'' → i < it.items.length → Grow K Zx A' S' H' A' S' H'' ∧ ∃ d, it.items[i]? = some d ∧ DR A' (cut A' Zx S' H'') K x d
def tI (K : PySem.W.Frag) (W : WX) (ca : Str → Addr) (f : FI) : TI := fun σ H R => ∃ A Z S ρ, SOk K A Z S H ∧ Sl K A (cut A Z S H) ρ σ ∧ Post K W ca A Z S H σ (f ρ S) fun B T I it => ∀ J, ItOk K Z J it B T I → R J I
structure SI (X : Cx) (W : WX) (ca : Str → Addr) (tg iter : Expr) (f : FI) : Prop where
  pi : PI X tg iter (tI X.K W ca f)
theorem pi_imp {tg iter : Expr} {t t' : TI} (h : PI X tg iter t) (i : ∀ σ H R, t' σ H R → t σ H R) : PI X tg iter t' := ⟨fun pins s σ H R I q => h.run pins s σ H R I (i _ _ _ q)⟩
/-- lists -/
def iterOf (S : Sto) (d : D) : Option ItD := match d with
  | .lst xs => some ⟨xs, none⟩
  | .kls xs => some ⟨xs, none⟩
  | .cel i => (lstOf S (.cel i)).map fun xs => ⟨xs, some i⟩
  | _ => none
def fiSeq (f : FE) : FI := fun ρ S => (f ρ S).bind fun d S1 => match iterOf S1 d with
  | some it => .ok it S1
  | none => .bad
theorem cel_get {S : Sto} {i : Nat} {xs : List D} (h : lstOf S (.cel i) = some xs) : S[i]? = some (.lst xs) ∨ S[i]? = some (.lk xs) := by
  simp only [lstOf] at h
  split at h
  · rename_i e; cases h; exact .inl e
  · rename_i e; cases h; exact .inr e
  · cases h
theorem get_cel {S : Sto} {i : Nat} {xs : List D} (h : S[i]? = some (.lst xs) ∨ S[i]? = some (.lk xs)) : lstOf S (.cel i) = some xs := by
  simp only [lstOf]
  rcases h with h | h <;> rw [h]
/-- a list's address and items, as they stand later -/
theorem seq_later {K : PySem.W.Frag} {A A' Z Zx : List Addr} {S S' : Sto} {H H' : Hp} {v : V} {d : D} {it : ItD} (r : DR A (cut A Z S H) K v d) (h : iterOf S d = some it) (g : GrowI K Z A S H Zx A' S' H') (ha : ItAt it S') :
    ∃ vs, v = .ref (match v with | .ref a => a | _ => 0) ∧ SqL K H' (match v with | .ref a => a | _ => 0) vs ∧ DRs A' (cut A' Zx S' H') K vs it.items := by
  have r' := r.growI g
  cases d with
  | lst xs =>
    cases h
    cases r' with
    | lst h1 h2 => exact ⟨_, rfl, SqL.of (cut_sub h1), h2⟩
  | kls xs =>
    cases h
    cases r' with
    | kls h1 h2 => exact ⟨_, rfl, sql_mono (fun _ _ => cut_sub) h1, h2⟩
  | cel i =>
    unfold iterOf at h
    simp only at h
    cases e : lstOf S (.cel i) with
    | none => rw [e] at h; cases h
    | some xs =>
      rw [e] at h
      cases h
      obtain ⟨a, vs, rfl, h1, h2⟩ := lstOf_at g.ok r' (get_cel (ha i rfl))
      exact ⟨vs, rfl, SqL.of h1, h2⟩
  | _ => cases h
theorem iter_here {S : Sto} {d : D} {it : ItD} (h : iterOf S d = some it) : ItAt it S := fun j e => by
  cases d with
  | lst xs => cases h; cases e
  | kls xs => cases h; cases e
  | cel i =>
    unfold iterOf at h
    simp only at h
    cases e1 : lstOf S (.cel i) with
    | none => rw [e1] at h; cases h
    | some xs =>
      rw [e1] at h
      cases h
      cases e
      exact cel_get e1
  | _ => cases h
theorem iter_ref {K : PySem.W.Frag} {A : List Addr} {G : Hp} {S : Sto} {v : V} {d : D} {it : ItD} (r : DR A G K v d) (h : iterOf S d = some it) : ∃ a, v = .ref a := by
  cases r with
  | lst _ _ => exact ⟨_, rfl⟩
  | kls _ _ => exact ⟨_, rfl⟩
  | cel _ => exact ⟨_, rfl⟩
  | _ => cases h
theorem itl_ok {K : PySem.W.Frag} {A Z : List Addr} {S : Sto} {H : Hp} {a : Addr} {d : D} {it : ItD} (ok : SOk K A Z S H) (r : DR A (cut A Z S H) K (.ref a) d) (h : iterOf S d = some it) : ItOk K Z (Itl K a) it A S H where
  here := iter_here h
  go := fun Zx A' S' H' i g ha hi => by
    obtain ⟨vs, _, h1, h2⟩ := seq_later r h g ha
    have hl := h2.length
    exact ⟨vs, vs[i]'(by omega), h1, by simp⟩
  stop := fun Zx A' S' H' g ha => by
    obtain ⟨vs, _, h1, h2⟩ := seq_later r h g ha
    exact ⟨vs, h1, by rw [h2.length]; exact Nat.le_refl _⟩
  yld := fun Zx A' S' H' i x H'' g ha hy hi => by
    obtain ⟨vs, _, h1, h2⟩ := seq_later r h g ha
    obtain ⟨rfl, y⟩ := hy
    obtain ⟨d', e1, e2⟩ := h2.getv (y vs h1)
    exact ⟨.refl g.ok, d', e1, e2⟩
theorem si_seq {tg l : Expr} {f : FE} (h : SE X W ca l f) : SI X W ca tg l (fiSeq f) := ⟨pi_imp (pi_list h.pe) fun σ H R ⟨A, Z, S, ρ, ok, sl, p⟩ => by
  refine ⟨A, Z, S, ρ, ok, sl, (Post.split p).imp fun B T I d gr q v rv => ?_⟩
  cases e : iterOf T d with
  | none => rw [e] at q; exact q.elim
  | some it =>
    rw [e] at q
    obtain ⟨a, rfl⟩ := iter_ref rv e
    obtain ⟨vs, _, h1, _⟩ := seq_later rv e (Grow0.refl gr.ok).toI (iter_here e)
    exact ⟨a, rfl, ⟨vs, h1⟩, q B I (.refl gr.ok) _ (itl_ok gr.ok rv e)⟩⟩
/-- a tuple -/
def fiTup (f : FE) : FI := fun ρ S => (f ρ S).bind fun d S1 => match d with
  | .tup xs => .ok ⟨xs, none⟩ S1
  | _ => .bad
theorem itt_ok {K : PySem.W.Frag} {A Z : List Addr} {S : Sto} {H : Hp} {a : Addr} {xs : List D} (r : DR A (cut A Z S H) K (.ref a) (.tup xs)) : ItOk K Z (Itt K a) ⟨xs, none⟩ A S H where
  here := fun j e => by cases e
  go := fun Zx A' S' H' i g ha hi => by
    obtain ⟨b, vs, e, h1, h2⟩ := tup_at (r.growI g)
    cases e
    have hl := h2.length
    exact ⟨vs, vs[i]'(by simp at hi; omega), h1, by simp⟩
  stop := fun Zx A' S' H' g ha => by
    obtain ⟨b, vs, e, h1, h2⟩ := tup_at (r.growI g)
    cases e
    exact ⟨vs, h1, by rw [h2.length]; exact Nat.le_refl _⟩
  yld := fun Zx A' S' H' i x H'' g ha hy hi => by
    obtain ⟨b, vs, e, h1, h2⟩ := tup_at (r.growI g)
    cases e
    obtain ⟨rfl, y⟩ := hy
    obtain ⟨d', e1, e2⟩ := h2.getv (y vs h1)
    exact ⟨.refl g.ok, d', e1, e2⟩
theorem si_tup {tg l : Expr} {f : FE} (h : SE X W ca l f) : SI X W ca tg l (fiTup f) := ⟨pi_imp (pi_tup h.pe) fun σ H R ⟨A, Z, S, ρ, ok, sl, p⟩ => by
  refine ⟨A, Z, S, ρ, ok, sl, (Post.split p).imp fun B T I d gr q v rv => ?_⟩
  cases d with
  | tup xs =>
    obtain ⟨a, vs, rfl, h1, h2⟩ := tup_at rv
    exact ⟨a, rfl, ⟨vs, h1⟩, q B I (.refl gr.ok) _ (itt_ok rv)⟩
  | _ => exact q.elim⟩
/-- range -/
def rangeD (lo : Int) (n : Nat) : List D := (List.range n).map fun i => .int (lo + (i : Nat))
theorem rangeD_len {lo : Int} {n : Nat} : (rangeD lo n).length = n := by simp [rangeD]
theorem rangeD_get {lo : Int} {n i : Nat} (h : i < n) : (rangeD lo n)[i]? = some (.int (lo + (i : Nat))) := by
  unfold rangeD
  rw [List.getElem?_map, List.getElem?_range h]
  rfl
theorem itr_ok {K : PySem.W.Frag} {A Z : List Addr} {S : Sto} {H : Hp} {lo : Int} {n : Nat} : ItOk K Z (Itr lo n) ⟨rangeD lo n, none⟩ A S H where
  here := fun j e => by cases e
  go := fun Zx A' S' H' i g ha hi => by rw [rangeD_len] at hi; exact hi
  stop := fun Zx A' S' H' g ha => by show n ≤ _; rw [rangeD_len]; exact Nat.le_refl _
  yld := fun Zx A' S' H' i x H'' g ha hy hi => by
    obtain ⟨rfl, rfl⟩ := hy
    rw [rangeD_len] at hi
    exact ⟨.refl g.ok, _, rangeD_get hi, .int _⟩
@[irreducible] def smallI (i : Int) : Bool := ltN i 4611686018427387904
theorem smallI_at {i : Int} (h : smallI i = true) : -(2 ^ 62) ≤ i ∧ i < 2 ^ 62 := by
  unfold smallI at h
  have p62 : (2 : Int) ^ 62 = 4611686018427387904 := by decide +kernel
  have := ltN_at h
  rw [p62]
  omega
def fiRng1 (f : FA) : FI := fun ρ S => (f ρ S).bind fun ds S1 => match ds with
  | [.int j] => if smallI j then .ok ⟨rangeD 0 j.toNat, none⟩ S1 else .bad
  | _ => .bad
def fiRng2 (f : FA) : FI := fun ρ S => (f ρ S).bind fun ds S1 => match ds with
  | [.int i, .int j] => if smallI i && smallI j then .ok ⟨rangeD i (j - i).toNat, none⟩ S1 else .bad
  | _ => .bad
theorem si_range1 {tg : Expr} {f : FA} {p : Pos} (hg : Gl X "range") (hm : X.mg "range" = none) (h : SA X W ca [a] f) (hs : starEach [a] X.env = [(false, eval a X.env)] := by rfl) : SI X W ca tg (.Call (.Name "range" p) [a] [] pos) (fiRng1 f) := ⟨pi_imp (pi_range1 hg hm h.pa hs) fun σ H R ⟨A, Z, S, ρ, ok, sl, p⟩ => by
  refine ⟨A, Z, S, ρ, ok, sl, (Post.split p).imp fun B T I ds gr q vs rv => ?_⟩
  split at q
  · cases rv with
    | cons r1 r2 =>
      cases r1; cases r2
      split at q
      · rename_i j hc
        exact ⟨j, rfl, (smallI_at hc).1, (smallI_at hc).2, q B I (.refl gr.ok) _ itr_ok⟩
      · exact q.elim
  · exact q.elim⟩
theorem si_range2 {tg : Expr} {f : FA} {p : Pos} (hg : Gl X "range") (hm : X.mg "range" = none) (h : SA X W ca [a, b] f) (hs : starEach [a, b] X.env = [(false, eval a X.env), (false, eval b X.env)] := by rfl) (hs2 : starEach [b] X.env = [(false, eval b X.env)] := by rfl) : SI X W ca tg (.Call (.Name "range" p) [a, b] [] pos) (fiRng2 f) := ⟨pi_imp (pi_range2 hg hm h.pa hs hs2) fun σ H R ⟨A, Z, S, ρ, ok, sl, p⟩ => by
  refine ⟨A, Z, S, ρ, ok, sl, (Post.split p).imp fun B T I ds gr q vs rv => ?_⟩
  split at q
  · cases rv with
    | cons r1 r2 =>
      cases r2 with
      | cons r2 r3 =>
        cases r1; cases r2; cases r3
        split at q
        · rename_i i j hc
          rw [Bool.and_eq_true] at hc
          exact ⟨i, j, rfl, ⟨(smallI_at hc.1).1, (smallI_at hc.1).2, (smallI_at hc.2).1, (smallI_at hc.2).2⟩, q B I (.refl gr.ok) _ itr_ok⟩
        · exact q.elim
  · exact q.elim⟩
/-- enumerate -/
def enumD (xs : List D) : List D := xs.zipIdx.map fun p => .tup [.int (p.2 : Nat), p.1]
theorem enumD_len {xs : List D} : (enumD xs).length = xs.length := by simp [enumD]
theorem enumD_get {xs : List D} {i : Nat} {d : D} (h : xs[i]? = some d) : (enumD xs)[i]? = some (.tup [.int (i : Nat), d]) := by
  unfold enumD
  rw [List.getElem?_map, List.getElem?_zipIdx, h]
  simp
def fiEnum (f : FE) : FI := fun ρ S => (f ρ S).bind fun d S1 => match iterOf S1 d with
  | some it => if it.cell = none then .ok ⟨enumD it.items, none⟩ S1 else .bad
  | none => .bad
theorem ite_ok {K : PySem.W.Frag} {A Z : List Addr} {S : Sto} {H : Hp} {a : Addr} {d : D} {it : ItD} (r : DR A (cut A Z S H) K (.ref a) d) (h : iterOf S d = some it) (hc : it.cell = none) : ItOk K Z (Ite K a) ⟨enumD it.items, none⟩ A S H where
  here := fun j e => by cases e
  go := fun Zx A' S' H' i g ha hi => by
    obtain ⟨vs, _, h1, h2⟩ := seq_later r h g (fun j e => by rw [hc] at e; cases e)
    have hl := h2.length
    rw [enumD_len] at hi
    exact ⟨vs, vs[i]'(by omega), h1, by simp⟩
  stop := fun Zx A' S' H' g ha => by
    obtain ⟨vs, _, h1, h2⟩ := seq_later r h g (fun j e => by rw [hc] at e; cases e)
    exact ⟨vs, h1, by show vs.length ≤ _; rw [h2.length, enumD_len]; exact Nat.le_refl _⟩
  yld := fun Zx A' S' H' i x H'' g ha hy hi => by
    obtain ⟨vs, _, h1, h2⟩ := seq_later r h g (fun j e => by rw [hc] at e; cases e)
    obtain ⟨T, x', rfl, hT, rfl, y⟩ := hy
    obtain ⟨d', e1, e2⟩ := h2.getv (y vs h1)
    exact ⟨.new g.ok hT, _, enumD_get e1, new_tup g.ok hT (.cons (.int _) (.cons e2 .nil))⟩
theorem si_enum {l : Expr} {p tpos : Pos} {elts : List Expr} {kk : Nat} {f : FE} (hg : Gl X "enumerate") (hm : X.mg "enumerate" = none) (h : SE X W ca l f) (hs : starEach [l] X.env = [(false, eval l X.env)] := by rfl) : SI X W ca (.Tuple elts kk tpos) (.Call (.Name "enumerate" p) [l] [] pos) (fiEnum f) := ⟨pi_imp (pi_enum hg hm (pa_cons h.pe pa_nil hs) hs) fun σ H R ⟨A, Z, S, ρ, ok, sl, p⟩ => by
  refine ⟨A, Z, S, ρ, ok, sl, (Post.split p).imp fun B T I d gr q v rv => ?_⟩
  cases e : iterOf T d with
  | none => rw [e] at q; exact q.elim
  | some it =>
    rw [e] at q
    simp only at q
    split at q
    · rename_i hc
      obtain ⟨a, rfl⟩ := iter_ref rv e
      obtain ⟨vs, _, h1, _⟩ := seq_later rv e (Grow0.refl gr.ok).toI (iter_here e)
      exact ⟨a, vs, rfl, h1, q B I (.refl gr.ok) _ (ite_ok rv e hc)⟩
    · exact q.elim⟩
end
end DL

set_option maxHeartbeats 2000000
namespace DL
open PySem PySem.Spec PyProof.Rows L2
/-! ### for -/
def loopD (g : FG) (f : FS) : List D → FS
  | [] => fun ρ S => .ok (.nx, ρ) S
  | d :: ds => fun ρ S => (g d ρ S).bind fun ρ1 S1 => (f ρ1 S1).bind fun r S2 => match r.1 with
    | .nx => loopD g f ds r.2 S2
    | .ct => loopD g f ds r.2 S2
    | .bk => .ok (.nx, r.2) S2
    | .rt d => .ok (.rt d, r.2) S2
/-- a list that may change is locked while it is walked -/
def withLock {α : Type} (c : Option Nat) (k : Sto → Res α) (S : Sto) : Res α := match c with
  | none => k S
  | some j => match S[j]? with
    | some (.lst xs) => (k (S.set j (.lk xs))).bind fun r S2 => .ok r (S2.set j (.lst xs))
    | some (.lk _) => k S
    | _ => .bad
@[simp] theorem withLock_none {α : Type} (k : Sto → Res α) (S : Sto) : withLock none k S = k S := rfl
theorem Post.lock {α : Type} {K : PySem.W.Frag} {W : WX} {ca : Str → Addr} {A Z : List Addr} {S : Sto} {H : Hp} {σ : L2.St} {it : ItD} {k : Sto → Res α} {P : List Addr → Sto → Hp → α → Prop}
    (ok : SOk K A Z S H) (ha : ItAt it S) (h : Post K W ca A Z S H σ (withLock it.cell k S) P) :
    ∃ (S1 : Sto) (U : Sto → Sto), Grow0 K Z A S H A S1 H ∧ (∀ j, it.cell = some j → S1[j]? = some (.lk it.items)) ∧ Post K W ca A Z S1 H σ (k S1) fun B T I r => Grow0 K Z B T I B (U T) I ∧ P B (U T) I r := by
  obtain ⟨items, cell⟩ := it
  cases cell with
  | none => exact ⟨S, id, .refl ok, fun j e => (by cases e), h.imp fun B T I r g p => ⟨.refl g.ok, p⟩⟩
  | some j =>
    have hj := ha j rfl
    unfold withLock at h
    simp only at h hj
    rcases hj with hj | hj
    · rw [hj] at h
      simp only at h
      have g0 : Grow0 K Z A S H A (S.set j (.lk items)) H := Grow.relock ok hj (.inl rfl) (.inr rfl)
      have hi : j < S.length := (List.getElem?_eq_some_iff.mp hj).1
      have e1 : (S.set j (.lk items))[j]? = some (.lk items) := List.getElem?_set_self hi
      -- from the locked store on
      have back : ∀ {B T I}, Grow K Z A (S.set j (.lk items)) H B T I → Grow K Z A S H B (T.set j (.lst items)) I ∧ Grow0 K Z B T I B (T.set j (.lst items)) I := fun {B T I} g => by
        have e2 : T[j]? = some (.lk items) := g.lk j items e1
        have g1 : Grow0 K Z B T I B (T.set j (.lst items)) I := Grow.relock g.ok e2 (.inr rfl) (.inl rfl)
        have g2 := (g0.trans g.zero).trans g1
        refine ⟨⟨g2.pre, g2.ok, g2.ex, g2.hid, fun i ds e => ?_⟩, g1⟩
        have ne : j ≠ i := fun z => by subst z; rw [hj] at e; cases e
        rw [List.getElem?_set_ne ne]
        exact g.lk i ds (by rw [List.getElem?_set_ne ne]; exact e)
      refine ⟨S.set j (.lk items), fun T => T.set j (.lst items), g0, fun j' e => (by cases e; exact e1), ?_⟩
      cases e3 : k (S.set j (.lk items)) with
      | bad => rw [e3] at h; exact h
      | err c d T =>
        rw [e3] at h
        intro B I dx v σ' g
        have g2 := g0.trans g.zero
        refine h B I dx v σ' ⟨g2.pre, g2.ok, g2.ex, g2.hid, fun i ds e => ?_⟩
        have ne : j ≠ i := fun z => by subst z; rw [hj] at e; cases e
        exact g.lk i ds (by rw [List.getElem?_set_ne ne]; exact e)
      | ok a T =>
        rw [e3] at h
        intro B I g
        exact ⟨(back g).2, h B I (back g).1⟩
    · rw [hj] at h
      simp only at h
      exact ⟨S, id, .refl ok, fun j' e => (by cases e; exact hj), h.imp fun B T I r g p => ⟨.refl g.ok, p⟩⟩
def fFor (fi : FI) (g : FG) (f : FS) : FS := fun ρ S => (fi ρ S).bind fun it S1 => withLock it.cell (loopD g f it.items ρ) S1
theorem drop_at {α : Type} {l : List α} {i : Nat} {d : α} (h : l[i]? = some d) : l.drop i = d :: l.drop (i + 1) := by
  obtain ⟨h1, h2⟩ := List.getElem?_eq_some_iff.mp h
  rw [← h2]
  exact List.drop_eq_getElem_cons h1
section
variable {X : Cx} {W : WX} {ca : Str → Addr} {e a b : Expr} {es : List Expr} {pos : Pos} {st : Stmt} {rest : List Stmt}
theorem ss_for {tg iter : Expr} {body : List Stmt} {fi : FI} {g : FG} {f : FS} (hp : PassesOwn (model X.prog X.w) X.A X.env X.xe) (hc : X.calm = true) (hi : SI X W ca tg iter fi) (hg : SG X W ca tg g) (hb : SSs X W ca body f)
    (hs : ∀ x, foldedSetIterable iter X.env x = pure x := by intro _; rfl) : SS X W ca (.For tg iter body [] pos) (fFor fi g f) := by
  refine ss_of (ps_for hp hc hi.pi hg.pg hb.pss hs) fun D σ H ⟨A, Z, S, ρ, ok, sl, p⟩ => ?_
  refine ⟨A, Z, S, ρ, ok, sl, (Post.split p).imp fun B T I it gr q J hJ => ?_⟩
  obtain ⟨T1, U, g0, hl, q1⟩ := Post.lock gr.ok hJ.here q
  refine ⟨fun i m σ' H' => m = it.items.length - i ∧ i ≤ it.items.length ∧ ∃ A' S' ρ', Grow X.K Z B T1 I A' S' H' ∧ Sl X.K A' (cut A' Z S' H') ρ' σ' ∧
      Post X.K W ca A' Z S' H' σ' (loopD g f (it.items.drop i) ρ' S') fun B T I r => Grow0 X.K Z B T I B (U T) I ∧ EndF X.K D Z B (U T) I r,
    ⟨it.items.length, rfl, Nat.zero_le _, B, T1, ρ, .refl g0.ok, (sl.grow gr).mono g0.pre g0.ex, q1⟩, ?_⟩
  rintro i m σ' H' ⟨rfl, hi, A', S', ρ', g1, sl', q2⟩
  have hat : ItAt it S' := fun j e => .inr (g1.lk j _ (hl j e))
  have g01 : GrowI X.K Z B T I Z A' S' H' := (g0.trans g1.zero).toI
  by_cases hlt : i < it.items.length
  · refine .inr ⟨hJ.go _ _ _ _ i g01 hat hlt, fun σ'' H'' => ∃ A' S' ρ', Grow X.K Z B T1 I A' S' H'' ∧ Sl X.K A' (cut A' Z S' H'') ρ' σ'' ∧
      Post X.K W ca A' Z S' H'' σ'' (loopD g f (it.items.drop (i + 1)) ρ' S') fun B T I r => Grow0 X.K Z B T I B (U T) I ∧ EndF X.K D Z B (U T) I r,
      fun σ'' H'' h => ⟨it.items.length - (i + 1), by omega, rfl, hlt, h⟩, fun x H'' hy => ?_⟩
    obtain ⟨g2, d, ed, rd⟩ := hJ.yld _ _ _ _ i x H'' g01 hat hy hlt
    rw [drop_at ed] at q2
    have q3 := Post.later q2 g2
    refine ⟨A', Z, S', ρ', d, g2.ok, sl'.grow g2, rd, (Post.split q3).imp fun C V L ρ1 g3 q4 σ2 sl2 => ?_⟩
    refine ⟨C, Z, V, ρ1, g3.ok, sl2, (Post.split (q4.sig σ2)).imp fun C2 V2 L2' r g4 q5 => ?_⟩
    have gg := g1.trans (g2.trans (g3.trans g4))
    obtain ⟨fl, ρ2⟩ := r
    cases fl with
    | nx => exact fun σ3 sl3 => ⟨C2, V2, ρ2, gg, sl3, q5.sig σ3⟩
    | ct => exact fun σ3 sl3 => ⟨C2, V2, ρ2, gg, sl3, q5.sig σ3⟩
    | bk =>
      intro σ3 sl3
      obtain ⟨z1, z2⟩ := q5 C2 L2' (.refl g4.ok)
      exact z2 σ3 (sl3.mono z1.pre z1.ex)
    | rt d' =>
      intro v rv
      obtain ⟨z1, z2⟩ := q5 C2 L2' (.refl g4.ok)
      exact z2 v (rv.grow0 z1)
  · have ei : i = it.items.length := by omega
    subst ei
    refine .inl ⟨hJ.stop _ _ _ _ g01 hat, ?_⟩
    rw [List.drop_length] at q2
    obtain ⟨z1, z2⟩ := q2 A' H' (.refl g1.ok)
    exact z2 σ' (sl'.mono z1.pre z1.ex)
/-! ### list comprehensions -/
abbrev W0 : WX := fun _ _ _ _ => False
/-- targets that leave all but the slots vs -/
def tGw (K : PySem.W.Frag) (ca : Str → Addr) (vs : List Nat) (f : FG) : TG := fun v σ H Q => ∃ A Z S ρ d, SOk K A Z S H ∧ Sl K A (cut A Z S H) ρ σ ∧ DR A (cut A Z S H) K v d ∧ Post K W0 ca A Z S H σ (f d ρ S) fun B T I ρ' => ∀ σ', Sl K B (cut B Z T I) ρ' σ' → L2.wipe σ' vs = L2.wipe σ vs → Q σ' I
structure SGw (X : Cx) (ca : Str → Addr) (vs : List Nat) (tg : Expr) (f : FG) : Prop where
  pg : PG X tg (tGw X.K ca vs f)
def tGws (K : PySem.W.Frag) (ca : Str → Addr) (vs : List Nat) (f : FGs) : TGs := fun xs σ H Q => ∃ A Z S ρ ds, SOk K A Z S H ∧ Sl K A (cut A Z S H) ρ σ ∧ DRs A (cut A Z S H) K xs ds ∧ Post K W0 ca A Z S H σ (f ds ρ S) fun B T I ρ' => ∀ σ', Sl K B (cut B Z T I) ρ' σ' → L2.wipe σ' vs = L2.wipe σ vs → Q σ' I
structure SGws (X : Cx) (ca : Str → Addr) (vs : List Nat) (tgs : List Expr) (f : FGs) : Prop where
  pgs : PGs X tgs (tGws X.K ca vs f)
theorem wipe_set {σ : L2.St} {i : Nat} {x : Option V} : ∀ {vs : List Nat}, i ∈ vs → L2.wipe (σ.set i x) vs = L2.wipe σ vs
  | [], h => by cases h
  | v :: vs, h => by
    show (L2.wipe (σ.set i x) vs).set v none = (L2.wipe σ vs).set v none
    by_cases c : i ∈ vs
    · rw [wipe_set c]
    · have e : i = v := by
        rcases List.mem_cons.mp h with h | h
        · exact h
        · exact absurd h c
      subst e
      apply List.ext_getElem?
      intro j
      by_cases ej : i = j
      · subst ej
        by_cases hl : i < σ.length
        · rw [List.getElem?_set_self (by rw [L2.wipe_length, List.length_set]; exact hl), List.getElem?_set_self (by rw [L2.wipe_length]; exact hl)]
        · rw [List.getElem?_eq_none (by rw [List.length_set, L2.wipe_length, List.length_set]; omega), List.getElem?_eq_none (by rw [List.length_set, L2.wipe_length]; omega)]
      · rw [List.getElem?_set_ne ej, List.getElem?_set_ne ej]
        exact wipe_at ej
where
  wipe_at {σ : L2.St} {i j : Nat} {x : Option V} (h : i ≠ j) : ∀ {vs : List Nat}, (L2.wipe (σ.set i x) vs)[j]? = (L2.wipe σ vs)[j]?
    | [] => List.getElem?_set_ne h
    | v :: vs => by
      show ((L2.wipe (σ.set i x) vs).set v none)[j]? = ((L2.wipe σ vs).set v none)[j]?
      by_cases c : v = j
      · subst c
        by_cases hl : v < σ.length
        · rw [List.getElem?_set_self (by rw [L2.wipe_length, List.length_set]; exact hl), List.getElem?_set_self (by rw [L2.wipe_length]; exact hl)]
        · rw [List.getElem?_eq_none (by rw [List.length_set, L2.wipe_length, List.length_set]; omega), List.getElem?_eq_none (by rw [List.length_set, L2.wipe_length]; omega)]
      · rw [List.getElem?_set_ne c, List.getElem?_set_ne c]
        exact wipe_at h
theorem wipe_in {σ : L2.St} {j : Nat} : ∀ {vs : List Nat}, j ∈ vs → (L2.wipe σ vs).set j none = L2.wipe σ vs
  | [], h => by cases h
  | v :: vs, h => by
    show ((L2.wipe σ vs).set v none).set j none = (L2.wipe σ vs).set v none
    by_cases c : j = v
    · subst c
      rw [List.set_set]
    · have hj : j ∈ vs := (List.mem_cons.mp h).resolve_left c
      rw [List.set_comm _ _ (fun z => c z.symm), wipe_in hj]
theorem wipe_wipe {σ : L2.St} : ∀ {vs : List Nat}, L2.wipe (L2.wipe σ vs) vs = L2.wipe σ vs := fun {vs} => by
  have : ∀ {us : List Nat}, (∀ j ∈ us, j ∈ vs) → L2.wipe (L2.wipe σ vs) us = L2.wipe σ vs := fun {us} => by
    induction us with
    | nil => intro _; rfl
    | cons u us ih =>
      intro h
      show (L2.wipe (L2.wipe σ vs) us).set u none = L2.wipe σ vs
      rw [ih fun j hj => h j (List.mem_cons_of_mem _ hj)]
      exact wipe_in (h u List.mem_cons_self)
  exact this fun j h => h
theorem sgw_name {i : Nat} {x : Str} {vs : List Nat} (hv : i ∈ vs) (hN : X.N.Nodup) (hi : X.N[i]? = some x) (hx : Loc X.env.scope x) (hf : X.fn x = true ∨ X.env.scope.names.lookup x = some .local := by first | exact .inl rfl | exact .inr rfl | assumption) : SGw X ca vs (.Name x pos) (fgName i) :=
  ⟨pg_imp (pg_name hN hi hx hf) fun v σ H Q ⟨A, Z, S, ρ, d, ok, sl, rv, p⟩ => p A H (.refl ok) _ (sl.set rv i) (wipe_set hv)⟩
theorem sgws_nil {vs : List Nat} : SGws X ca vs [] fgNil := ⟨pgs_imp pgs_nil fun xs σ H Q ⟨A, Z, S, ρ, ds, ok, sl, rv, p⟩ => by
  cases ds with
  | nil => cases rv; exact ⟨rfl, p A H (.refl ok) σ sl rfl⟩
  | cons _ _ => exact p.elim⟩
theorem sgws_cons {vs : List Nat} {es : List Expr} {f : FG} {g : FGs} (h1 : SGw X ca vs e f) (h2 : SGws X ca vs es g)
    (hs : (assignEach (e :: es) X.env).map (·.2) = assign e X.env :: (assignEach es X.env).map (·.2) := by rfl) : SGws X ca vs (e :: es) (fgCons f g) := ⟨pgs_imp (pgs_cons h1.pg h2.pgs hs) fun xs σ H Q ⟨A, Z, S, ρ, ds, ok, sl, rv, p⟩ => by
  cases ds with
  | nil => exact p.elim
  | cons d r =>
    cases rv with
    | cons r1 r2 =>
      refine ⟨_, _, rfl, A, Z, S, ρ, d, ok, sl, r1, (Post.split p).imp fun B T I ρ1 gr q σ' sl' hw => ⟨B, Z, T, ρ1, r, gr.ok, sl', r2.grow gr, ?_⟩⟩
      exact (q.sig σ').imp fun B T I ρ' _ z σ'' sl'' hw' => z σ'' sl'' (hw'.trans hw)⟩
theorem sgw_tup {vs : List Nat} {es : List Expr} {k : Nat} {f : FGs} {n : Nat} (hc : X.calm = true) (h : SGws X ca vs es f)
    (hn : (assignEach es X.env).length = n := by rfl) (hst : (assignEach es X.env).findIdx? (·.1) = none := by rfl) : SGw X ca vs (.Tuple es k pos) (fgTup n f) := ⟨pg_imp (pg_tup hc h.pgs hn hst) fun v σ H Q ⟨A, Z, S, ρ, d, ok, sl, rv, p⟩ => by
  cases d with
  | tup xs =>
    unfold fgTup at p
    simp only at p
    split at p
    · rename_i hl
      obtain ⟨a, ws, rfl, h1, h2⟩ := tup_at rv
      exact ⟨a, ws, rfl, h1, by rw [h2.length]; exact hl, A, Z, S, ρ, xs, ok, sl, h2, p⟩
    · exact p.elim
  | _ => exact p.elim⟩
def compD (g : FG) (c : FT) (el : FE) : List D → Env → Sto → Res (List D)
  | [] => fun _ S => .ok [] S
  | d :: ds => fun ρ S => (g d ρ S).bind fun ρ1 S1 => (c ρ1 S1).bind fun b S2 => if b = true then (el ρ1 S2).bind fun y S3 => (compD g c el ds ρ S3).bind fun ys S4 => .ok (y :: ys) S4 else compD g c el ds ρ S2
def noErr {α : Type} (r : Res α) : Res α := match r with
  | .ok a S => .ok a S
  | _ => .bad
@[simp] theorem noErr_ok {α : Type} (a : α) (S : Sto) : noErr (.ok a S) = .ok a S := rfl
theorem Post.noErr {α : Type} {K : PySem.W.Frag} {A Z : List Addr} {S : Sto} {H : Hp} {σ : L2.St} {r : Res α} {P : List Addr → Sto → Hp → α → Prop} (h : Post K W ca A Z S H σ (noErr r) P) : Post K W0 ca A Z S H σ r P := by
  cases r with
  | ok a T => exact h
  | err c d T => exact h.elim
  | bad => exact h
/-- the growth of all but the list p that a comprehension makes -/
structure GrowP (K : PySem.W.Frag) (p : Addr) (Z A : List Addr) (S : Sto) (H : Hp) (A' : List Addr) (S' : Sto) (H' : Hp) : Prop where
  pre : A <+: A'
  ok : SOk K A' (p :: Z) S' H'
  ex : ∀ b o, cut A (p :: Z) S H b = some o → cut A' (p :: Z) S' H' b = some o
  hid : ∀ b ∈ Z, H' b = H b
  lk : ∀ (i : Nat) (ds : List D), S[i]? = some (.lk ds) → S'[i]? = some (.lk ds)
section
variable {K : PySem.W.Frag} {p : Addr} {Z A A' A'' : List Addr} {S S' S'' : Sto} {H H' H'' : Hp} {σ : L2.St}
theorem GrowP.of (g : Grow K (p :: Z) A S H A' S' H') : GrowP K p Z A S H A' S' H' := ⟨g.pre, g.ok, g.ex, fun b hb => g.hid b (List.mem_cons_of_mem _ hb), g.lk⟩
theorem GrowP.trans (g : GrowP K p Z A S H A' S' H') (g' : GrowP K p Z A' S' H' A'' S'' H'') : GrowP K p Z A S H A'' S'' H'' :=
  ⟨g.pre.trans g'.pre, g'.ok, fun b o h => g'.ex b o (g.ex b o h), fun b hb => (g'.hid b hb).trans (g.hid b hb), fun i ds h => g'.lk i ds (g.lk i ds h)⟩
theorem GrowP.turn {o : HO} (ok : SOk K A (p :: Z) S H) (hz : p ∉ Z) : GrowP K p Z A S H A S (upd H p o) :=
  ⟨List.prefix_refl _, ok.turn, fun b u e => by rw [cut_turn]; exact e, fun b hb => upd_ne (fun z => hz (z ▸ hb)), fun _ _ h => h⟩
/-- what is left of a comprehension -/
def Rest (K : PySem.W.Frag) (p : Addr) (Z A : List Addr) (S : Sto) (H : Hp) (acc : List D) (r : Res (List D)) (Qd : Hp → Prop) : Prop := match r with
  | .ok ys V => ∀ C L vs, GrowP K p Z A S H C V L → L p = some (.lst vs) → DRs C (cut C (p :: Z) V L) K vs (acc ++ ys) → Qd L
  | _ => False
theorem Rest.later {acc : List D} {r : Res (List D)} {Qd : Hp → Prop} (h : Rest K p Z A S H acc r Qd) (g : GrowP K p Z A S H A' S' H') : Rest K p Z A' S' H' acc r Qd := by
  cases r with
  | ok ys V => exact fun C L vs g' => h C L vs (g.trans g')
  | _ => exact h
theorem Rest.split {α : Type} {acc : List D} {r : Res α} {f : α → Sto → Res (List D)} {Qd : Hp → Prop} (h : Rest K p Z A S H acc (r.bind f) Qd) : Post K W0 ca A (p :: Z) S H σ r fun B T I a => Rest K p Z B T I acc (f a T) Qd := by
  cases r with
  | ok a T => exact fun B I g => Rest.later h (.of g)
  | err c d T => exact h.elim
  | bad => exact h
end
def fLc (vs : List Nat) (fi : FI) (g : FG) (c : FT) (el : FE) : FE := fun ρ S => (fi ρ S).bind fun it S1 => if it.items.length < capN then (withLock it.cell (fun S => noErr (compD g c el it.items (wipeE ρ vs) S)) S1).bind fun ys S2 => .ok (.lst ys) S2 else .bad
def fYes : FT := fun _ S => .ok true S
structure STs (X : Cx) (W : WX) (ca : Str → Addr) (ifs : List Expr) (f : FT) : Prop where
  pts : PTs X ifs (tT X.K W ca f)
theorem pts_imp {ifs : List Expr} {t t' : TT} (h : PTs X ifs t) (i : ∀ σ H Q, t' σ H Q → t σ H Q) : PTs X ifs t' := ⟨fun pins s σ H Q I q => h.run pins s σ H Q I (i _ _ _ q)⟩
theorem sts_nil : STs X W ca [] fYes := ⟨pts_imp pts_nil fun σ H Q ⟨A, Z, S, ρ, ok, sl, p⟩ => p A H (.refl ok)⟩
theorem sts_one {f : FT} (h : ST_ X W ca a f) : STs X W ca [a] f := ⟨pts_one h.pt⟩
theorem compD_len {g : FG} {c : FT} {el : FE} : ∀ {ds : List D} {ρ : Env} {S V : Sto} {ys : List D}, compD g c el ds ρ S = .ok ys V → ys.length ≤ ds.length
  | [], ρ, S, V, ys, h => by cases h; exact Nat.le_refl _
  | d :: ds, ρ, S, V, ys, h => by
    unfold compD at h
    cases e1 : g d ρ S with
    | ok ρ1 S1 =>
      rw [e1] at h
      simp only [Res.bind_ok] at h
      cases e2 : c ρ1 S1 with
      | ok b S2 =>
        rw [e2] at h
        simp only [Res.bind_ok] at h
        cases b with
        | true =>
          simp only [if_true] at h
          cases e3 : el ρ1 S2 with
          | ok y S3 =>
            rw [e3] at h
            simp only [Res.bind_ok] at h
            cases e4 : compD g c el ds ρ S3 with
            | ok zs S4 =>
              rw [e4] at h
              simp only [Res.bind_ok] at h
              cases h
              simp only [List.length_cons]
              exact Nat.succ_le_succ (compD_len e4)
            | err _ _ _ => rw [e4] at h; cases h
            | bad => rw [e4] at h; cases h
          | err _ _ _ => rw [e3] at h; cases h
          | bad => rw [e3] at h; cases h
        | false =>
          simp only [Bool.false_eq_true, if_false] at h
          simp only [List.length_cons]
          exact Nat.le_succ_of_le (compD_len h)
      | err _ _ _ => rw [e2] at h; cases h
      | bad => rw [e2] at h; cases h
    | err _ _ _ => rw [e1] at h; cases h
    | bad => rw [e1] at h; cases h
theorem se_lc {elt tg iter : Expr} {ifs : List Expr} {scope : Scope} {own : List (Str × Nat)} {fi : FI} {g : FG} {c : FT} {el : FE} (hc : X.calm = true) (hN : X.N.Nodup) (hi : SI X W ca tg iter fi) (ok : BlkOk X.N X.env.scope scope own)
    (hg : ∀ (s : Shared) (H : Hp) (C : Addr) (cl : List (Str × Addr)) (fp : List Addr), SGw (X.blk s H scope (compEnvC scope cl C X.env) fp) ca (own.map (·.2)) tg g)
    (ht : ∀ (s : Shared) (H : Hp) (C : Addr) (cl : List (Str × Addr)) (fp : List Addr), STs (X.blk s H scope (compEnvC scope cl C X.env) fp) W0 ca ifs c)
    (he : ∀ (s : Shared) (H : Hp) (C : Addr) (cl : List (Str × Addr)) (fp : List Addr), SE (X.blk s H scope (compEnvC scope cl C X.env) fp) W0 ca elt el) (hs : ∀ x, foldedSetIterable iter X.env x = pure x := by intro _; rfl) :
    SE X W ca (.ListComp elt [⟨tg, iter, ifs, 0⟩] scope pos) (fLc (own.map (·.2)) fi g c el) :=
  se_of (pe_lc hc hN hi.pi ok (fun s H C cl fp => (hg s H C cl fp).pg) (fun s H C cl fp => (ht s H C cl fp).pts) (fun s H C cl fp => (he s H C cl fp).pe) hs) fun _ _ _ h => lc_read h
where
  lc_read {K : PySem.W.Frag} {vs : List Nat} {fi : FI} {g : FG} {c : FT} {el : FE} {σ : L2.St} {H : Hp} {Q : VK} (h : tE K W ca (fLc vs fi g c el) σ H Q) : tLc (tI K W ca fi) (tGw K ca vs g) (tT K W0 ca c) (tE K W0 ca el) vs σ H Q := by
    obtain ⟨A, Z, S, ρ, ok, sl, p⟩ := h
    refine ⟨A, Z, S, ρ, ok, sl, (Post.split p).imp fun B T I it gr q J hJ p0 hp => ?_⟩
    have hz : p0 ∉ Z := fun z => (gr.ok.hid p0 z).1 hp
    by_cases hlen : it.items.length < capN
    case neg => rw [if_neg hlen] at q; exact q.elim
    rw [if_pos hlen] at q
    obtain ⟨T1, U, g0, hl, q1⟩ := Post.lock gr.ok hJ.here (Post.split q)
    have sl1 : Sl K B (cut B Z T1 I) ρ σ := (sl.grow gr).mono g0.pre g0.ex
    -- what is left at the start
    have r0 : Rest K p0 Z B T1 (upd I p0 (.lst [])) [] (compD g c el it.items (wipeE ρ vs) T1) (Q (.ref p0)) := by
      cases e : compD g c el it.items (wipeE ρ vs) T1 with
      | bad => rw [e] at q1; exact q1.elim
      | err _ _ _ => rw [e] at q1; exact q1.elim
      | ok ys V =>
        rw [e] at q1
        intro C L ws gp hL rL
        have gz : Grow K Z B T1 I C V L := by
          refine ⟨gp.pre, gp.ok.show_, fun b o eb => cut_hide b o (gp.ex b o (cut_hidden hp b o eb)), fun b hb => ?_, gp.lk⟩
          rw [gp.hid b hb]
          exact upd_some (g0.ok.hid b hb).1 hp
        obtain ⟨z1, z2⟩ := q1 C L gz
        refine z2 C L (.refl z1.ok) _ (.lst (z1.ex _ _ (cut_shown gp.ok hL hz)) ?_)
        exact rL.mono (List.prefix_refl _) fun b o eb => z1.ex _ _ (cut_hide b o eb)
    -- a growth behind the start is one from the walk's beginning
    have back : ∀ {A' S' H'}, GrowP K p0 Z B T1 (upd I p0 (.lst [])) A' S' H' → GrowI K Z B T I (p0 :: Z) A' S' H' := fun {A' S' H'} gp =>
      ⟨gp.pre, gp.ok, fun b o eb => gp.ex b o (cut_hidden hp b o (g0.ex b o eb))⟩
    let Inv_ : Nat → Hp → Prop := fun i H' => ∃ A' S' ws acc, GrowP K p0 Z B T1 (upd I p0 (.lst [])) A' S' H' ∧ H' p0 = some (.lst ws) ∧ DRs A' (cut A' (p0 :: Z) S' H') K ws acc ∧ acc.length ≤ i ∧
      Rest K p0 Z A' S' H' acc (compD g c el (it.items.drop i) (wipeE ρ vs) S') (Q (.ref p0))
    refine ⟨fun i m H' => m = it.items.length - i ∧ i ≤ it.items.length ∧ Inv_ i H', ⟨it.items.length, rfl, Nat.zero_le _, B, T1, [], [], ⟨List.prefix_refl _, g0.ok.hide hp, fun _ _ e => e, fun _ _ => rfl, fun _ _ e => e⟩, upd_same, .nil, Nat.zero_le _, r0⟩, ?_⟩
    rintro i m H' ⟨rfl, hi, A', S', ws, acc, gp, hw, rw_, hacc, rest⟩
    have hat : ItAt it S' := fun j e => .inr (gp.lk j _ (hl j e))
    have g01 := back gp
    by_cases hlt : i < it.items.length
    · refine .inr ⟨hJ.go _ _ _ _ i g01 hat hlt, Inv_ (i + 1), fun H'' h => ⟨it.items.length - (i + 1), by omega, rfl, hlt, h⟩, fun x H'' hy => ?_⟩
      obtain ⟨g2, d, ed, rd⟩ := hJ.yld _ _ _ _ i x H'' g01 hat hy hlt
      rw [drop_at ed] at rest
      have gp2 := gp.trans (.of g2)
      have rest2 := rest.later (.of g2)
      have hw2 : H'' p0 = some (.lst ws) := by rw [g2.hid p0 List.mem_cons_self]; exact hw
      have slw : Sl K A' (cut A' (p0 :: Z) S' H'') (wipeE ρ vs) (L2.wipe σ vs) := (sl1.mono gp2.pre fun b o eb => gp2.ex b o (cut_hidden hp b o eb)).wipe vs
      refine ⟨A', p0 :: Z, S', wipeE ρ vs, d, g2.ok, slw, rd, (rest2.split (σ := L2.wipe σ vs)).imp fun C V L ρ1 g3 r3 σ2 sl2 hw3 => ⟨hw3.trans wipe_wipe, ?_⟩⟩
      refine ⟨C, p0 :: Z, V, ρ1, g3.ok, sl2, (r3.split (σ := σ2)).imp fun C2 V2 M b g4 r4 => ?_⟩
      have g23 := g3.trans g4
      cases b with
      | false =>
        refine iteF ⟨C2, V2, ws, acc, gp2.trans (.of g23), by rw [g23.hid p0 List.mem_cons_self]; exact hw2, (rw_.grow g2).grow g23, Nat.le_succ_of_le hacc, r4⟩
      | true =>
        refine iteT ⟨C2, p0 :: Z, V2, ρ1, g4.ok, sl2.grow g4, (r4.split (σ := σ2)).imp fun C3 V3 N y g5 r5 v rv => ?_⟩
        have g25 := g23.trans g5
        have hw5 : N p0 = some (.lst ws) := by rw [g25.hid p0 List.mem_cons_self]; exact hw2
        have rws := (rw_.grow g2).grow g25
        refine ⟨ws, hw5, by rw [rws.length]; exact capN_lt (by omega), C3, V3, ws ++ [v], acc ++ [y], (gp2.trans (.of g25)).trans (.turn g5.ok hz), upd_same, ?_, ?_, ?_⟩
        · rw [cut_turn]
          exact rws.append (.cons rv .nil)
        · simp only [List.length_append, List.length_cons, List.length_nil]
          omega
        · cases e5 : compD g c el (it.items.drop (i + 1)) (wipeE ρ vs) V3 with
          | ok ys V4 =>
            rw [e5] at r5
            intro C6 L6 ws6 gp6 h6 r6
            refine r5 C6 L6 ws6 ((GrowP.turn g5.ok hz).trans gp6) h6 ?_
            rw [List.append_assoc] at r6
            exact r6
          | err _ _ _ => rw [e5] at r5; exact r5.elim
          | bad => rw [e5] at r5; exact r5.elim
    · have ei : i = it.items.length := by omega
      subst ei
      refine .inl ⟨hJ.stop _ _ _ _ g01 hat, ?_⟩
      rw [List.drop_length] at rest
      exact rest A' H' ws ⟨List.prefix_refl _, gp.ok, fun _ _ e => e, fun _ _ => rfl, fun _ _ e => e⟩ hw (by rw [List.append_nil]; exact rw_)
end
end DL

set_option maxHeartbeats 2000000
namespace DL
open PySem PySem.Spec PyProof.Rows L2
/-! ### defs: called where no repr is under way -/
structure FnG (P : Program) (w : World) (K : PySem.W.Frag) (mg : Str → Option Value) (base : Heap) (k : Nat) (f : Addr) (fd : FuncData) (ps : List Str) (sp : Sp) : Prop where
  len : ∀ vs H Q E, sp vs H Q E → vs.length = ps.length
  run : ∀ (A : Around) (outer : List PySem.Env) (s : Shared) (H : Hp) (args : Args) (us : List Value) (vs : List V) (Q : VK) (E : XK), Room k A → A.guards = some [] → Env0 P w K mg base A outer s H → BindsTo s fd args (ps.zip us) → Vals vs us → sp vs H Q E →
    codeAny (model P w) A (.call (.ref f) args) (CR (L2.CX P w) outer P w H s Q E) s
section
variable {P : Program} {w : World} {K : PySem.W.Frag} {mg : Str → Option Value} {base : Heap}
theorem FnG.mono {j k : Nat} {f : Addr} {fd : FuncData} {ps : List Str} {sp : Sp} (F : FnG P w K mg base j f fd ps sp) (h : j ≤ k) : FnG P w K mg base k f fd ps sp :=
  ⟨F.len, fun A outer s H args us vs Q E hr => F.run A outer s H args us vs Q E (hr.mono h)⟩
theorem FnG.imp {k : Nat} {f : Addr} {fd : FuncData} {ps : List Str} {sp sp' : Sp} (F : FnG P w K mg base k f fd ps sp) (h : ∀ vs H Q E, sp' vs H Q E → sp vs H Q E) : FnG P w K mg base k f fd ps sp' :=
  ⟨fun vs H Q E q => F.len vs H Q E (h _ _ _ _ q), fun A outer s H args us vs Q E hr hg e0 b r q => F.run A outer s H args us vs Q E hr hg e0 b r (h _ _ _ _ q)⟩
/-- a def of the text, by its body -/
theorem fnG_of {x qual : Str} {st : Stmt} {f : Addr} {fd : FuncData} {N ps : List Str} {k : Nat} {sp : Sp} (F : Fun K x qual st f fd) (S : FnScope N ps (defScope st)) (hlen : ∀ vs H Q E, sp vs H Q E → vs.length = ps.length)
    (body : ∀ (cdv : Value) (A : Around) (outer : List PySem.Env) (s : Shared) (H : Hp) (vs : List V) (Q : VK) (E : XK), Room k (A.deeper (envOfC qual (defScope st) s.heap.objs.size f cdv)) → A.guards = some [] → sp vs H Q E →
      ∃ t, PSs (cxOf (L2.CX P w) P w K mg base N qual (defScope st) f cdv A outer s H E) (defBody st) t ∧ t { nx := fun _ H' => Q .non H', rt := Q } (L2.start N vs) H) : FnG P w K mg base (k + 1) f fd ps sp := by
  obtain ⟨oc, od, kV, doc, pm, an, cdv, ct, osl, rfl, hlk, hcode⟩ := F.ex
  constructor
  · exact hlen
  intro A outer s H args us vs Q E room gu at0 bnd rel q
  have n1 := hlen _ _ _ _ q
  have kin : K.In s.heap := at0.mod.kin.keeps (fun b o e => (at0.bs b o e).1)
  have nol : s.heap.NoLimit := at0.mod.nolimit.keeps (fun b o e => (at0.bs b o e).1)
  refine codeAny_call_function room.depth (kin _ _ hlk) rfl S.co S.gen rfl (PySem.W.codeRec_of kin hcode) (bnd _ _ _ _ ?_)
  refine wpAny_newFunctionEnv_cells S.kind ?_ ?_
  · rintro ⟨n, v⟩ hm
    rcases S.par n (List.of_mem_zip hm).1 with z | z
    · exact Or.inl z
    · exact Or.inr ⟨z, PySem.W.cellsFrom_some _ _ _ (Or.inl z)⟩
  · intro env he s1 inc
    subst he
    refine ⟨nol.keeps inc.toInCall.keep, codeAny_func ?_⟩
    obtain ⟨t, ht, hq⟩ := body cdv A outer s H vs Q E (room.deeper _) gu q
    refine wpAny_mono (ht.run [] s1 (L2.start N vs) H _ (inv_start S room.hd at0 n1 rel inc) hq) ?_ (fun _ _ z => z)
    intro fl s' hs
    cases fl with
    | ret u =>
      obtain ⟨v, σ', H', J, rv, z⟩ := hs
      exact ⟨v, H', J.os, J.bare, J.base, J.hok, rv, z⟩
    | next =>
      obtain ⟨σ', H', J, z⟩ := hs
      exact ⟨V.non, H', J.os, J.bare, J.base, J.hok, rfl, z⟩
    | brk => obtain ⟨_, _, _, z⟩ := hs; exact z.elim
    | cont => obtain ⟨_, _, _, z⟩ := hs; exact z.elim
/-- the callee runs -/
theorem run_G {X : Cx} {k : Nat} {f : Addr} {fd : FuncData} {ps : List Str} {sp : Sp} {W : WX} {pins : List (Addr × Obj)} {σ : L2.St} {H : Hp} {s : Shared} {Q : VK} {us : List Value} {vs : List V} (F : FnG X.prog X.w X.K X.mg X.base k f fd ps sp) (hr : Room k X.A) (hgu : X.A.guards = some [])
    (hb : L2.Binds X.K fd ps []) (tk : Takes X W) (I : Inv X pins σ H s) (r : Vals vs us) (h : sp vs H Q (fun c d H' => W c d σ H')) : wpAny (model X.prog X.w) X.A (call (.ref f) us) (EP X pins σ Q) X.xe s := by
  have n1 : us.length = ps.length := r.length.symm.trans (F.len _ _ _ _ h)
  have bd := hb s us I.kIn (by simpa using n1)
  simp only [List.append_nil] at bd
  refine wpAny_call (codeAny_mono (F.run X.A X.stack s H ⟨us, []⟩ us vs Q _ hr hgu I.env0 bd r h) ?_)
  intro fl s' z
  match fl, z with
  | .error e, z => exact tk e s' (XE.of_call I (fun _ _ _ h => h) z)
  | .ok (.ret u), z => exact I.after z
  | .ok .next, z => exact z.elim
  | .ok .brk, z => exact z.elim
  | .ok .cont, z => exact z.elim
end
/-- what a def promises: the data that g gives -/
def spD (K : PySem.W.Frag) (ca : Str → Addr) (n : Nat) (g : List D → Sto → Res D) : Sp := fun vs H Q E => ∃ A Z S ds, SOk K A Z S H ∧ DRs A (cut A Z S H) K vs ds ∧ ds.length = n ∧
  Post K (fun c d _ H' => E c d H') ca A Z S H [] (g ds S) fun B T I d => ∀ v, DR B (cut B Z T I) K v d → Q v I
/-- a def that stands in the module and keeps its promise -/
structure Def (P : Program) (w : World) (K : PySem.W.Frag) (mg : Str → Option Value) (base : Heap) (ca : Str → Addr) (x : Str) (ps : List Str) (k : Nat) (g : List D → Sto → Res D) : Prop where
  ex : ∃ f fd, mg x = some (.ref f) ∧ PySem.W.keepIn K (.ref f) = true ∧ L2.Binds K fd ps [] ∧ FnG P w K mg base k f fd ps (spD K ca ps.length g)
section
variable {P : Program} {w : World} {K : PySem.W.Frag} {mg : Str → Option Value} {base : Heap} {ca : Str → Addr} {x : Str} {ps : List Str}
theorem Def.mono {j k : Nat} {g : List D → Sto → Res D} (d : Def P w K mg base ca x ps j g) (h : j ≤ k) : Def P w K mg base ca x ps k g :=
  let ⟨f, fd, a, b, c, F⟩ := d.ex; ⟨f, fd, a, b, c, F.mono h⟩
/-- g' says the same where it says something -/
theorem Def.imp {k : Nat} {g g' : List D → Sto → Res D} (d : Def P w K mg base ca x ps k g) (h : ∀ ds S, g' ds S ≠ .bad → g ds S = g' ds S) : Def P w K mg base ca x ps k g' :=
  let ⟨f, fd, a, b, c, F⟩ := d.ex
  ⟨f, fd, a, b, c, F.imp fun vs H Q E ⟨A, Z, S, ds, h1, h2, h3, h4⟩ => ⟨A, Z, S, ds, h1, h2, h3, by
    have : g' ds S ≠ .bad := fun e => by rw [e] at h4; exact h4
    rw [h ds S this]
    exact h4⟩⟩
/-- what a body gives back -/
def bodyD (N : List Str) (n : Nat) (f : FS) (ds : List D) (S : Sto) : Res D := (f (ds.map some ++ List.replicate (N.length - n) none) S).bind fun r S1 => match r.1 with
  | .rt d => .ok d S1
  | .nx => .ok .non S1
  | _ => .bad
theorem start_sl {K : PySem.W.Frag} {A : List Addr} {G : Hp} {N : List Str} {vs : List V} {ds : List D} (r : DRs A G K vs ds) : Sl K A G (ds.map some ++ List.replicate (N.length - ds.length) none) (L2.start N vs) := by
  unfold L2.start
  have hl := r.length
  refine ⟨by simp [hl], fun i d e => ?_⟩
  by_cases hi : i < ds.length
  · rw [List.getElem?_append_left (by simpa using hi), List.getElem?_map] at e
    cases q : ds[i]? with
    | none => rw [q] at e; cases e
    | some d' =>
      rw [q] at e
      have : d' = d := by simpa using e
      subst this
      obtain ⟨v, h1, h2⟩ := r.get q
      refine ⟨v, ?_, h2⟩
      rw [List.getElem?_append_left (by simp [hl]; exact hi), List.getElem?_map, h1]
      rfl
  · rw [List.getElem?_append_right (by simpa using Nat.le_of_not_lt hi)] at e
    have := List.mem_of_getElem? e
    rw [List.mem_replicate] at this
    exact absurd this.2 (by simp)
abbrev WD (E : XK) : WX := fun c d _ H' => E c d H'
/-- THE RULE for a def -/
theorem fnG_D {qual : Str} {st : Stmt} {f : Addr} {fd : FuncData} {N : List Str} {k : Nat} {fs : FS} {g : List D → Sto → Res D} (F : Fun K x qual st f fd) (S : FnScope N ps (defScope st))
    (body : ∀ (cdv : Value) (A : Around) (outer : List PySem.Env) (s : Shared) (H : Hp) (E : XK), Room k (A.deeper (envOfC qual (defScope st) s.heap.objs.size f cdv)) → A.guards = some [] →
      Takes (cxOf (L2.CX P w) P w K mg base N qual (defScope st) f cdv A outer s H E) (WD E) →
      PassesOwn (model P w) (A.deeper (envOfC qual (defScope st) s.heap.objs.size f cdv)) (envOfC qual (defScope st) s.heap.objs.size f cdv) (cxOf (L2.CX P w) P w K mg base N qual (defScope st) f cdv A outer s H E).xe →
      SSs (cxOf (L2.CX P w) P w K mg base N qual (defScope st) f cdv A outer s H E) (WD E) ca (defBody st) fs)
    (hg : ∀ ds T, ds.length = ps.length → g ds T ≠ .bad → bodyD N ps.length fs ds T = g ds T) : FnG P w K mg base (k + 1) f fd ps (spD K ca ps.length g) := by
  refine fnG_of F S (fun vs H Q E ⟨A, Z, T, ds, h1, h2, h3, h4⟩ => h2.length.trans h3) ?_
  rintro cdv A outer s H vs Q E hr hgu ⟨B, Z, T, ds, ok, r, hl, po⟩
  refine ⟨_, (body cdv A outer s H E hr hgu (takes_of rfl rfl rfl rfl) (passes_of rfl)).pss, B, Z, T, ds.map some ++ List.replicate (N.length - ps.length) none, ok, by rw [← hl]; exact start_sl r, ?_⟩
  have e1 : g ds T ≠ .bad := fun e => by rw [e] at po; exact po
  rw [← hg ds T hl e1] at po
  unfold bodyD at po
  refine (Post.split (po.sig (L2.start N vs))).imp fun C U J r gr q => ?_
  obtain ⟨fl, ρ'⟩ := r
  cases fl with
  | nx => exact fun σ' sl' => q C J (.refl gr.ok) _ .non
  | rt d => exact fun v rv => q C J (.refl gr.ok) v rv
  | bk => exact q.elim
  | ct => exact q.elim
theorem def_of {qual : Str} {st : Stmt} {f : Addr} {fd : FuncData} {N : List Str} {k : Nat} {fs : FS} {g : List D → Sto → Res D} (hm : mg x = some (.ref f)) (F : Fun K x qual st f fd) (S : FnScope N ps (defScope st)) (hb : L2.Binds K fd ps [])
    (body : ∀ (cdv : Value) (A : Around) (outer : List PySem.Env) (s : Shared) (H : Hp) (E : XK), Room k (A.deeper (envOfC qual (defScope st) s.heap.objs.size f cdv)) → A.guards = some [] →
      Takes (cxOf (L2.CX P w) P w K mg base N qual (defScope st) f cdv A outer s H E) (WD E) →
      PassesOwn (model P w) (A.deeper (envOfC qual (defScope st) s.heap.objs.size f cdv)) (envOfC qual (defScope st) s.heap.objs.size f cdv) (cxOf (L2.CX P w) P w K mg base N qual (defScope st) f cdv A outer s H E).xe →
      SSs (cxOf (L2.CX P w) P w K mg base N qual (defScope st) f cdv A outer s H E) (WD E) ca (defBody st) fs)
    (hg : ∀ ds T, ds.length = ps.length → g ds T ≠ .bad → bodyD N ps.length fs ds T = g ds T) : Def P w K mg base ca x ps (k + 1) g := ⟨f, fd, hm, F.kp, hb, fnG_D F S body hg⟩
end
section
variable {X : Cx} {W : WX} {ca : Str → Addr} {e a b c : Expr} {es : List Expr} {pos : Pos}
def fCall (n : Nat) (g : List D → Sto → Res D) (f : FA) : FE := fun ρ S => (f ρ S).bind fun ds S1 => if ds.length = n then g ds S1 else .bad
theorem se_call {x : Str} {p : Pos} {ps : List Str} {k : Nat} {g : List D → Sto → Res D} {f : FA} (d : Def X.prog X.w X.K X.mg X.base ca x ps k g) (hr : Room k X.A) (hgu : X.A.guards = some []) (tk : Takes X W) (hg : Gl X x) (ha : SA X W ca (e :: es) f)
    (hdb : (x == ("__debug__" : Str)) = false := by decide) (he : starEach (e :: es) X.env = (false, eval e X.env) :: starEach es X.env := by rfl) (hpl : (backTo pos (starEach es X.env)).any (·.1) = false := by rfl) :
    SE X W ca (.Call (.Name x p) (e :: es) [] pos) (fCall ps.length g f) := by
  obtain ⟨fa, fd, hm, hk, hb, F⟩ := d.ex
  refine ⟨⟨fun pins s σ H Q I h => ?_⟩⟩
  obtain ⟨A, Z, S, ρ, ok, sl, po⟩ := h
  refine wpAny_Call_Name_kw (ld_glob I hg hm ?_ hdb)
  refine PySem.W.callWith_K (h₀ := X.base) I.ok.mod.kin hk (thn (ha.pa.run pos pins s σ H (fun vs I => ∃ B Z T ds, SOk X.K B Z T I ∧ DRs B (cut B Z T I) X.K vs ds ∧ ds.length = ps.length ∧ Post X.K W ca B Z T I σ (g ds T) fun C U J d => ∀ v, DR C (cut C Z U J) X.K v d → Q v J) I ?_) fun us s1 ⟨vs, H1, I1, r, q⟩ => ⟨I1.kIn, ?_⟩) he hpl
  · refine ⟨A, Z, S, ρ, ok, sl, (Post.split po).imp fun B T I ds gr q vs rv => ?_⟩
    by_cases hl : ds.length = ps.length
    · rw [if_pos hl] at q
      exact ⟨B, Z, T, ds, gr.ok, rv, hl, q⟩
    · rw [if_neg hl] at q
      exact q.elim
  · obtain ⟨B, Z, T, ds, ok1, r1, hl, q1⟩ := q
    refine run_G F hr hgu hb tk I1 r ⟨B, Z, T, ds, ok1, r1, hl, ?_⟩
    cases e1 : g ds T with
    | ok d U => rw [e1] at q1; exact q1
    | err cl d U =>
      rw [e1] at q1
      exact fun B' I' dx v _ g h1 h2 => q1 B' I' dx v σ g h1 h2
    | bad => rw [e1] at q1; exact q1.elim
def fCall0 (g : List D → Sto → Res D) : FE := fun _ S => g [] S
theorem se_call0 {x : Str} {p : Pos} {k : Nat} {g : List D → Sto → Res D} (d : Def X.prog X.w X.K X.mg X.base ca x [] k g) (hr : Room k X.A) (hgu : X.A.guards = some []) (tk : Takes X W) (hg : Gl X x)
    (hdb : (x == ("__debug__" : Str)) = false := by decide) : SE X W ca (.Call (.Name x p) [] [] pos) (fCall0 g) := by
  obtain ⟨fa, fd, hm, hk, hb, F⟩ := d.ex
  refine ⟨⟨fun pins s σ H Q I h => ?_⟩⟩
  obtain ⟨A, Z, S, ρ, ok, sl, po⟩ := h
  refine wpAny_Call_Name_kw (ld_glob I hg hm ?_ hdb)
  refine PySem.W.callWith_K0 I.kIn hk (run_G (us := []) F hr hgu hb tk I .nil ⟨A, Z, S, [], ok, .nil, rfl, ?_⟩)
  have q1 : Post X.K W ca A Z S H σ (g [] S) _ := po
  cases e1 : g [] S with
  | ok d U => rw [e1] at q1; exact q1
  | err cl d U =>
    rw [e1] at q1
    exact fun B' I' dx v _ g h1 h2 => q1 B' I' dx v σ g h1 h2
  | bad => rw [e1] at q1; exact q1.elim
/-! a < b < c -/
def fChain (r r' : Op2) (fa fb fc : FE) : FE := fun ρ S => (fa ρ S).bind fun x S1 => (fb ρ S1).bind fun y S2 => (asB (okO (r x y S2) S2)).bind fun k S3 => if k = true then (fc ρ S3).bind fun z S4 => okO (r' y z S4) S4 else .ok (.bl false) S3
theorem tE_chain {K : PySem.W.Frag} {r r' : Op2} {fa fb fc : FE} {σ : L2.St} {H : Hp} {Q : VK} (h : tE K W ca (fChain r r' fa fb fc) σ H Q) : tChain (rD K r) (rD K r') (tE K W ca fa) (tE K W ca fb) (tE K W ca fc) σ H Q := by
  obtain ⟨A, Z, S, ρ, ok, sl, p⟩ := h
  refine ⟨A, Z, S, ρ, ok, sl, (Post.split p).imp fun B T I x g q v rv => ?_⟩
  refine ⟨B, Z, T, ρ, g.ok, sl.grow g, (Post.split q).imp fun C U J y g2 q2 w rw_ => ?_⟩
  cases e : r x y U with
  | none => rw [e] at q2; exact q2.elim
  | some d =>
    rw [e] at q2
    simp only [okO_some] at q2
    refine ⟨C, Z, U, x, y, d, g2.ok, rv.grow g2, rw_, e, fun C2 J2 v2 g3 rd => ?_⟩
    cases d with
    | bl k =>
      cases rd
      refine ⟨k, rfl, ?_⟩
      cases k with
      | false => exact iteF (q2 C2 J2 g3 _ (.bl _))
      | true =>
        simp only [asB_ok, Res.bind_ok, if_true] at q2
        have q3 := Post.later q2 g3
        refine iteT ⟨C2, Z, U, ρ, g3.ok, ((sl.grow g).grow g2).grow g3, (Post.split q3).imp fun C3 U3 J3 z g4 q4 v4 r4 => ?_⟩
        cases e2 : r' y z U3 with
        | none => rw [e2] at q4; exact q4.elim
        | some d2 =>
          rw [e2] at q4
          exact ⟨C3, Z, U3, y, z, d2, g4.ok, (rw_.grow g3).grow g4, r4, e2, fun B I v g r => q4 B I g v r⟩
    | _ => exact q2.elim
theorem se_chain {op op' : CmpOp} {r r' : Op2} {fa fb fc : FE} (ho : OpR X (compareOp op) (rD X.K r)) (ho' : OpR X (compareOp op') (rD X.K r')) (ha : SE X W ca a fa) (hb : SE X W ca b fb) (hc : SE X W ca c fc)
    (hm : lastMarks [op, op'] [b, c] = false := by with_unfolding_all rfl) : SE X W ca (.Compare a [op, op'] [b, c] pos) (fChain r r' fa fb fc) := se_of (pe_chain ho ho' ha.pe hb.pe hc.pe hm) fun _ _ _ h => tE_chain h
theorem st_chain {op op' : CmpOp} {r r' : Op2} {fa fb fc : FE} (ho : OpR X (compareOp op) (rD X.K r)) (ho' : OpR X (compareOp op') (rD X.K r')) (ha : SE X W ca a fa) (hb : SE X W ca b fb) (hc : SE X W ca c fc)
    (hm : lastMarks [op, op'] [b, c] = false := by with_unfolding_all rfl) : ST_ X W ca (.Compare a [op, op'] [b, c] pos) (fB (fChain r r' fa fb fc)) :=
  ⟨pt_imp (pt_chain ho ho' ha.pe hb.pe hc.pe hm) fun σ H Q h => tE_chain (Q := fun x H' => ∃ k, x = .bl k ∧ Q k H') (tT_B h)⟩
/-! repr -/
def reprD : OpN := fun ds S => match ds with
  | [d] => match toP S d with
    | some p => if p.showable && decide (p.depth ≤ 64) && decide (p.shown.length ≤ capN) then some (.str p.shown) else none
    | none => none
  | _ => none
end
end DL

set_option maxHeartbeats 2000000
namespace DL
open PySem PySem.Spec PyProof.Rows L2
/-! ### repr -/
theorem cd_repr {X : Cx} (hgu : X.A.guards = some []) (hu : X.A.units + 65 < cLine) : CallR X (.builtin "repr") (rDs X.K reprD) := by
  intro pins s σ H vs us Q I r ⟨A, Z, S, ds, d, ok, h, e, q⟩
  unfold reprD at e
  split at e
  · rename_i d0
    cases e1 : toP S d0 with
    | none => rw [e1] at e; cases e
    | some p =>
      rw [e1] at e
      simp only at e
      split at e
      · rename_i hc
        cases e
        simp only [Bool.and_eq_true, decide_eq_true_eq] at hc
        obtain ⟨⟨c1, c2⟩, c3⟩ := hc
        cases h with
        | cons h1 h2 =>
          cases h2
          obtain ⟨u, rfl, ru⟩ : ∃ u, us = [u] ∧ RelV _ u := by
            cases r with
            | cons r1 r2 => cases r2; exact ⟨_, rfl, r1⟩
          have dp := toP_at ok h1 e1
          have fin : EP X pins σ Q (.str p.shown s.toks) { s with toks := s.toks + 1 } := ⟨.str p.shown, H, I.tok _, ⟨_, rfl⟩, q A H _ (.refl ok) (.str _)⟩
          obtain ⟨as, rd⟩ := Dp.reads I p _ u dp ru
          cases rd with
          | none => exact PySem.P.repr_of_none fin
          | bool b => exact PySem.P.repr_of_bool fin
          | int i t => exact PySem.P.repr_of_int (by simpa [PyData.showable] using c1) fin
          | str x t => exact PySem.P.repr_of_str fin (capN_le c3)
          | @list a _ _ _ _ _ k1 k2 k3 k4 =>
            exact repr_of_reads' (Reads.list k1 k2 k3 k4) c1 (fun hd => by
              have nd : ∀ {p : PyData} {v : V}, Dp X.K H v p → p.hasDict = false := fun {p v} z => dp_nodict z
              rw [nd dp] at hd; cases hd) hgu (by omega) (fun _ _ e => e) (fun h' u tk hk => ⟨.str _, H, I.kept hk, ⟨_, rfl⟩, q A H _ (.refl ok) (.str _)⟩) (capN_le c3)
          | @tuple a _ _ _ _ _ k1 k2 k3 k4 =>
            exact repr_of_reads' (Reads.tuple k1 k2 k3 k4) c1 (fun hd => by
              have nd : ∀ {p : PyData} {v : V}, Dp X.K H v p → p.hasDict = false := fun {p v} z => dp_nodict z
              rw [nd dp] at hd; cases hd) hgu (by omega) (fun _ _ e => e) (fun h' u tk hk => ⟨.str _, H, I.kept hk, ⟨_, rfl⟩, q A H _ (.refl ok) (.str _)⟩) (capN_le c3)
          | dict => cases dp
      · cases e
  · cases e
where
  dp_nodict {K : PySem.W.Frag} {H : Hp} : ∀ {p : PyData} {v : V}, Dp K H v p → p.hasDict = false := by
    intro p
    exact nd1 p
  nd1 {K : PySem.W.Frag} {H : Hp} : ∀ (p : PyData) {v : V}, Dp K H v p → p.hasDict = false
    | .none, _, _ => rfl
    | .bool _, _, _ => rfl
    | .int _, _, _ => rfl
    | .str _, _, _ => rfl
    | .list xs, _, h => by
      cases h with
      | lst _ h2 => simp only [PyData.hasDict]; exact nd2 xs h2
    | .tuple xs, _, h => by
      cases h with
      | tup _ h2 => simp only [PyData.hasDict]; exact nd2 xs h2
    | .dict _, _, h => by cases h
  nd2 {K : PySem.W.Frag} {H : Hp} : ∀ (ps : List PyData) {vs : List V}, DpAll K H vs ps → PyData.hasDictAll ps = false
    | [], _, _ => rfl
    | p :: ps, _, h => by
      cases h with
      | cons h1 h2 => simp only [PyData.hasDictAll, Bool.or_eq_false_iff]; exact ⟨nd1 p h1, nd2 ps h2⟩
section
variable {X : Cx} {W : WX} {ca : Str → Addr} {e a b c : Expr} {es : List Expr} {pos : Pos}
/-! x.bit_length(), str(int) -/
def fBits (f : FE) : FE := fun ρ S => (f ρ S).bind fun d S1 => match d with
  | .int i => .ok (.int (Builtin.Int.intBits i : Nat)) S1
  | _ => .bad
theorem se_bits {o : Expr} {apos : Pos} {f : FE} (ho : SE X W ca o f) (hbase : attributeBase o "bit_length" X.env (eval o X.env) = eval o X.env := by rfl) (hline : (apos.endLine == pos.line) = true := by rfl) : SE X W ca (.Call (.Attribute o "bit_length" apos) [] [] pos) (fBits f) := by
  refine se_of (pe_bits ho.pe hbase hline) fun σ H Q ⟨A, Z, S, ρ, ok, sl, p⟩ => ?_
  refine ⟨A, Z, S, ρ, ok, sl, (Post.split p).imp fun B T I d gr q v rv => ?_⟩
  cases d with
  | int i =>
    cases rv
    exact ⟨i, rfl, q B I (.refl gr.ok) _ (.int _)⟩
  | _ => exact q.elim
def strD : OpN := fun ds _ => match ds with
  | [.int i] => if decide (i.natAbs.log2 < 1920) then some (.str (toString i)) else none
  | _ => none
theorem cd_str : CallR X (.type "str") (rDs X.K strD) := by
  intro pins s σ H vs us Q I r ⟨A, Z, S, ds, d, ok, h, e, q⟩
  unfold strD at e
  split at e
  · split at e
    · rename_i hc
      cases e
      cases h with
      | cons h1 h2 =>
        cases h1; cases h2
        exact call_str_int pins s σ H _ us Q I r ⟨_, rfl, of_decide_eq_true hc, q A H _ (.refl ok) (.str _)⟩
    · cases e
  · cases e
/-! max of a tuple of ints -/
theorem drs_ints {A : List Addr} {G : Hp} {K : PySem.W.Frag} : ∀ (ns : List Int), DRs A G K (ns.map V.int) (ns.map D.int)
  | [] => .nil
  | n :: ns => .cons (.int n) (drs_ints ns)
theorem dpAll_ints {K : PySem.W.Frag} {H : Hp} : ∀ (ns : List Int), DpAll K H (ns.map V.int) (ns.map PyData.int)
  | [] => .nil
  | n :: ns => .cons (.int n) (dpAll_ints ns)
theorem ints_map : ∀ {ds : List D} {ns : List Int}, intsOf ds = some ns → ds = ns.map D.int
  | [], ns, h => by cases h; rfl
  | .int i :: ds, ns, h => by
    unfold intsOf at h
    cases e : intsOf ds with
    | none => rw [e] at h; cases h
    | some ms =>
      rw [e] at h
      cases h
      rw [ints_map e]
      rfl
  | .non :: _, _, h => by cases h
  | .bl _ :: _, _, h => by cases h
  | .str _ :: _, _, h => by cases h
  | .lst _ :: _, _, h => by cases h
  | .kls _ :: _, _, h => by cases h
  | .tup _ :: _, _, h => by cases h
  | .dct _ :: _, _, h => by cases h
  | .cel _ :: _, _, h => by cases h
  | .fn _ :: _, _, h => by cases h
/-- max, also of a tuple -/
def maxT : OpN := fun ds S => match ds with
  | [.tup xs] => match intsOf xs with
    | some (n :: ns) => some (.int (ns.foldl max n))
    | _ => none
  | ds => maxD ds S
theorem depth_ints0 : ∀ ns : List Int, PyData.depthAll (ns.map PyData.int) = 0
  | [] => rfl
  | n :: ns => by
    simp only [List.map_cons, PyData.depthAll, PyData.depth, depth_ints0 ns]
    rfl
theorem reads_ints {h : Heap} : ∀ {us : List Value} {ns : List Int}, Vals (ns.map V.int) us → ∃ as, ReadsAll h us (ns.map PyData.int) as
  | _, [], r => by cases r; exact ⟨_, .nil⟩
  | _, n :: ns, r => by
    cases r with
    | cons r1 r2 =>
      obtain ⟨t, rfl⟩ := r1
      obtain ⟨as, q⟩ := reads_ints r2
      exact ⟨_, .cons (.int n t) q⟩
theorem cd_maxT (hc : X.calm = true) (hu : X.A.units + 1 < cLine) : CallR X (.builtin "max") (rDs X.K maxT) := by
  intro pins s σ H vs us Q I r ⟨A, Z, S, ds, d, ok, h, e, q⟩
  unfold maxT at e
  split at e
  · rename_i xs
    split at e
    · rename_i n ns e1
      cases e
      cases h with
      | cons h1 h2 =>
        cases h2
        obtain ⟨a, ws, rfl, k1, k2⟩ := tup_at h1
        have ew := intsOf_map e1 k2
        subst ew
        rw [Vals.ref1 r]
        obtain ⟨its, rv, ht, _⟩ := I.tuple k1
        obtain ⟨as, ra⟩ := reads_ints (h := s.heap) rv
        refine PySem.W.max_tuple_data (A := X.A) (vs := its.toArray) (x := .int n) (xs := ns.map PyData.int) (I.ok.hd hc) ht (by simpa using ra) ⟨?_, ?_⟩ ?_ ?_
        · intro x hx y hy
          simp only [List.mem_cons, List.mem_map] at hx hy
          obtain ⟨i, rfl⟩ : ∃ i, x = .int i := by rcases hx with rfl | ⟨i, _, rfl⟩ <;> exact ⟨_, rfl⟩
          obtain ⟨j, rfl⟩ : ∃ j, y = .int j := by rcases hy with rfl | ⟨j, _, rfl⟩ <;> exact ⟨_, rfl⟩
          rfl
        · intro x hx e
          subst e
          simp at hx
        · have := depth_ints0 (n :: ns)
          simp only [List.map_cons] at this
          rw [this]
          exact hu
        · intro i v h' tk bs hi hr hk
          rw [PySem.W.maxD_ints] at hr
          cases hr with
          | int _ t => exact ⟨.int _, H, I.kept hk, ⟨_, rfl⟩, q A H _ (.refl ok) (.int _)⟩
    · cases e
  · exact cd_max hc pins s σ H vs us Q I r ⟨A, Z, S, ds, d, ok, h, e, q⟩
/-! sorted: of ints -/
def insI (x : Int) : List Int → List Int
  | [] => [x]
  | y :: r => if x ≤ y then x :: y :: r else y :: insI x r
def sortI : List Int → List Int
  | [] => []
  | x :: r => insI x (sortI r)
theorem insI_perm (x : Int) : ∀ l, (insI x l).Perm (x :: l)
  | [] => .refl _
  | y :: r => by
    unfold insI
    split
    · exact .refl _
    · exact ((insI_perm x r).cons y).trans (.swap _ _ _)
theorem sortI_perm : ∀ l, (sortI l).Perm l
  | [] => .refl _
  | x :: r => (insI_perm x _).trans ((sortI_perm r).cons x)
theorem insI_ord (x : Int) : ∀ {l : List Int}, l.Pairwise (· ≤ ·) → (insI x l).Pairwise (· ≤ ·)
  | [], _ => List.pairwise_singleton _ _
  | y :: r, h => by
    unfold insI
    rw [List.pairwise_cons] at h
    split
    · rename_i c
      refine List.pairwise_cons.mpr ⟨fun z hz => ?_, List.pairwise_cons.mpr h⟩
      rcases List.mem_cons.mp hz with rfl | hz
      · exact c
      · exact Int.le_trans c (h.1 z hz)
    · rename_i c
      refine List.pairwise_cons.mpr ⟨fun z hz => ?_, insI_ord x h.2⟩
      rcases List.mem_cons.mp ((insI_perm x r).mem_iff.mp hz) with rfl | hz
      · omega
      · exact h.1 z hz
theorem sortI_ord : ∀ l, (sortI l).Pairwise (· ≤ ·)
  | [] => List.Pairwise.nil
  | x :: r => insI_ord x (sortI_ord r)
theorem ord_one {l m : List Int} (p : l.Perm m) (h1 : l.Pairwise (· ≤ ·)) (h2 : m.Pairwise (· ≤ ·)) : l = m := p.eq_of_pairwise (fun a b _ _ h1 h2 => Int.le_antisymm h1 h2) h1 h2
end
end DL

set_option maxHeartbeats 2000000
namespace DL
open PySem PySem.Spec PyProof.Rows L2
/-- a pair of a score and something, over a heap -/
def Keyed2 (h : Heap) (v : Value) (k : Int × Int) (p : PyData) : Prop := ∃ (a : Addr) (o : Obj) (b : Addr) (r : Value) (n : Nat) (t u : Tok) (as : List Addr), v = .ref a ∧ h.get? a = some o ∧ o.cls = .type "tuple" ∧ o.data = .seq #[.ref b, r] n ∧
  IsTup h b #[.int k.1 t, .int k.2 u] ∧ Reads h r p as ∧ SeqAt.shaped p = true
theorem Keyed2.keeps {h h' : Heap} {v : Value} {k : Int × Int} {p : PyData} (x : Keyed2 h v k p) (e : ∀ b o, h.get? b = some o → h'.get? b = some o) : Keyed2 h' v k p := by
  obtain ⟨a, o, b, r, n, t, u, as, h1, h2, h3, h4, ⟨ob, k1, k2, k3⟩, h6, h7⟩ := x
  exact ⟨a, o, b, r, n, t, u, as, h1, e _ _ h2, h3, h4, ⟨ob, e _ _ k1, k2, k3⟩, PyProof.Rows.Reads.keeps e h6, h7⟩
section
variable {prog : Program} {w : World} {A : Around} {s : Shared}
theorem eqAt_scores {a b : Addr} {k m : Int × Int} {t u t' u' : Tok} (h1 : IsTup s.heap a #[.int k.1 t, .int k.2 u]) (h2 : IsTup s.heap b #[.int m.1 t', .int m.2 u']) (hu : A.units + 64 < cLine) :
    SeqAt.EqAt A s (.ref a) (.ref b) (decide (k = m)) := by
  obtain ⟨oa, e1, e2, na, e3⟩ := h1
  obtain ⟨ob, f1, f2, nb, f3⟩ := h2
  have r1 : Reads s.heap (.ref a) (.tuple [.int k.1, .int k.2]) _ := .tuple e1 e2 e3 (.cons (.int k.1 t) (.cons (.int k.2 u) .nil))
  have r2 : Reads s.heap (.ref b) (.tuple [.int m.1, .int m.2]) _ := .tuple f1 f2 f3 (.cons (.int m.1 t') (.cons (.int m.2 u') .nil))
  have q := SeqAt.eqAt_reads _ _ A s _ _ _ _ r1 r2 (by rfl) (by rfl) (by
    have d : (PyData.tuple [.int k.1, .int k.2]).depth ≤ 64 := by simp [PyData.depth, PyData.depthAll]
    have := Nat.min_le_left (PyData.tuple [.int k.1, .int k.2]).depth (PyData.tuple [.int m.1, .int m.2]).depth
    omega)
  have z : PyData.eqv (.tuple [.int k.1, .int k.2]) (.tuple [.int m.1, .int m.2]) = decide (k = m) := by
    obtain ⟨x, y⟩ := k
    obtain ⟨x', y'⟩ := m
    simp only [PyData.eqv, PyData.eqvAll, Bool.and_true]
    by_cases e1 : x = x' <;> by_cases e2 : y = y' <;> simp [e1, e2]
  rw [← z]
  exact q
theorem lexLt_two (k m : Int × Int) (h : k ≠ m) : HT.lexLt [k.1, k.2] [m.1, m.2] = SrtO.lexB k m := by
  obtain ⟨x, y⟩ := k
  obtain ⟨x', y'⟩ := m
  unfold SrtO.lexB
  simp only [HT.lexLt]
  by_cases e1 : x = x'
  · subst e1
    have e2 : ¬ y = y' := fun z => h (by rw [z])
    simp [e2]
  · simp [e1]
theorem keyed_cmp {v1 v2 : Value} {k m : Int × Int} {p r : PyData} (h1 : Keyed2 s.heap v1 k p) (h2 : Keyed2 s.heap v2 m r) (hu : A.units + 64 < cLine) (hne : v1 = v2 ∨ k ≠ m) :
    wpAny (model prog w) A (keyLt' (tuples' false) v1 v2) (fun b s' => s' = s ∧ b = (if v1 = v2 then false else SrtO.lexB k m)) (fun _ _ => False) s := by
  obtain ⟨a, o, b, z, n, t, u, as, e1, e2, e3, e4, e5, e6, e7⟩ := h1
  obtain ⟨a', o', b', z', n', t', u', as', f1, f2, f3, f4, f5, f6, f7⟩ := h2
  subst e1 f1
  refine PySem.W.kat_lt e2 e4 f2 f4 ?_
  show PySem.W.KatLex prog w A false (decide (2 < 2)) _ [(.ref b, .ref b'), (z, z')] 0 s
  by_cases hv : (Value.ref a) = .ref a'
  · cases hv
    rw [e2] at f2
    cases f2
    rw [e4] at f4
    cases f4
    refine PySem.W.kat_cons (eqAt_scores e5 f5 hu prog w _ _ ?_)
    have km : k = m := by
      obtain ⟨oa, g1, g2, na, g3⟩ := e5
      obtain ⟨ob, i1, i2, nb, i3⟩ := f5
      rw [g1] at i1
      cases i1
      rw [g3] at i3
      simp only [Data.seq.injEq, List.cons.injEq, Array.mk.injEq, Value.int.injEq, and_true] at i3
      exact Prod.ext i3.1.1.1 i3.1.2.1
    rw [decide_eq_true km]
    refine PySem.W.kat_yes (PySem.W.kat_cons (SeqAt.eqAt_reads _ _ A s _ _ _ _ e6 e6 (SeqAt.canLay_of_shaped e7) (SeqAt.canLay_of_shaped e7) (SeqAt.room_of_shaped e7 hu) prog w _ _ ?_))
    rw [SeqAt.eqv_refl p (SeqAt.canLay_of_shaped e7)]
    refine PySem.W.kat_yes (PySem.W.kat_nil ⟨rfl, ?_⟩)
    rw [if_pos rfl]
    rfl
  · have km : k ≠ m := hne.resolve_left hv
    refine PySem.W.kat_cons (eqAt_scores e5 f5 hu prog w _ _ ?_)
    rw [decide_eq_false km]
    refine PySem.W.kat_no (PySem.W.kat_one _ _ (HT.lt_tupInts (ns := [k.1, k.2]) (ms := [m.1, m.2]) e5 f5 (.cons _ _ (.cons _ _ .nil)) (.cons _ _ (.cons _ _ .nil)) (by omega) ?_))
    rw [lexLt_two k m km, if_neg hv]
    exact ⟨rfl, rfl⟩
theorem keyed_uniq {v : Value} {k m : Int × Int} {p r : PyData} {h : Heap} (h1 : Keyed2 h v k p) (h2 : Keyed2 h v m r) : k = m := by
  obtain ⟨a, o, b, z, n, t, u, as, e1, e2, e3, e4, e5, e6, e7⟩ := h1
  obtain ⟨a', o', b', z', n', t', u', as', f1, f2, f3, f4, f5, f6, f7⟩ := h2
  subst e1
  cases f1
  rw [e2] at f2
  cases f2
  rw [e4] at f4
  cases f4
  obtain ⟨oa, g1, g2, na, g3⟩ := e5
  obtain ⟨ob, i1, i2, nb, i3⟩ := f5
  rw [g1] at i1
  cases i1
  rw [g3] at i3
  simp only [Data.seq.injEq, List.cons.injEq, Array.mk.injEq, Value.int.injEq, and_true] at i3
  exact Prod.ext i3.1.1.1 i3.1.2.1
open Classical in
noncomputable def kfv (h : Heap) (v : Value) : Int × Int := if q : ∃ m p, Keyed2 h v m p then q.choose else (0, 0)
theorem kfv_at {h : Heap} {v : Value} {m : Int × Int} {p : PyData} (q : Keyed2 h v m p) : kfv h v = m := by
  unfold kfv
  rw [dif_pos ⟨m, p, q⟩]
  have e : ∃ m p, Keyed2 h v m p := ⟨m, p, q⟩
  obtain ⟨r, hr⟩ := e.choose_spec
  exact keyed_uniq hr q
theorem firsts_keyed {h : Heap} {k : Value → Int × Int} : ∀ {vs : List Value}, (∀ v ∈ vs, ∃ p, Keyed2 h v (k v) p) → ∃ fs, PySem.W.KatTups h vs fs ∧ fs.length = vs.length ∧ ∀ f ∈ fs, ∃ b o, f = .ref b ∧ h.get? b = some o ∧ o.cls = .type "tuple"
  | [], _ => ⟨[], PySem.W.KatTups.nil, rfl, fun _ m => by cases m⟩
  | v :: vs, q => by
    obtain ⟨fs, h1, h2, h3⟩ := firsts_keyed fun u m => q u (List.mem_cons_of_mem _ m)
    obtain ⟨p, a, o, b, r, n, t, u, as, rfl, e2, e3, e4, ⟨ob, k1, k2, k3⟩, e6, e7⟩ := q v List.mem_cons_self
    refine ⟨.ref b :: fs, PySem.W.KatTups.cons e2 e3 e4 (by rfl) h1, by rw [List.length_cons, List.length_cons, h2], fun f m => ?_⟩
    rcases List.mem_cons.mp m with rfl | m
    · exact ⟨b, ob, rfl, k1, k2⟩
    · exact h3 f m
theorem keyed_sortable {a : Addr} {vs : List Value} {k : Value → Int × Int} {h0 : Heap} (hn : 0 < vs.length) (hp : ∀ v ∈ vs, ∃ p, Keyed2 h0 v (k v) p) (hu : A.units + 64 < cLine) (hd : ∀ v ∈ vs, ∀ u ∈ vs, v = u ∨ k v ≠ k u)
    (kk : ∀ b o, h0.get? b = some o → b ≠ a ∧ s.heap.get? b = some o) : SrtO.SortableO prog w A s a vs fun v u => SrtO.lexB (k v) (k u) := by
  intro h' keep
  have kp : ∀ b o, h0.get? b = some o → h'.get? b = some o := fun b o e => keep b o (kk b o e).1 (kk b o e).2
  have hp' : ∀ v ∈ vs, ∃ p, Keyed2 h' v (k v) p := fun v m => let ⟨p, q⟩ := hp v m; ⟨p, q.keeps kp⟩
  obtain ⟨fs, h1, h2, h3⟩ := firsts_keyed hp'
  refine ⟨tuples' false, fun Q E hq => ?_, ?_⟩
  · refine PySem.W.kat_kind (T := .type "tuple") h1 (by omega) (fun f hm => ?_) (by rfl) ?_
    · obtain ⟨b, o, rfl, e1, e2⟩ := h3 f hm
      exact e2 ▸ (PySem.W.Looks.ld e1).andThen .now
    · have e : (Value.type "tuple" != Value.type "tuple") = false := by first | decide +kernel | rfl | decide
      rw [e]
      exact hq
  · intro p q hm hm'
    obtain ⟨d1, q1⟩ := hp' _ hm
    obtain ⟨d2, q2⟩ := hp' _ hm'
    refine wpAny_mono (keyed_cmp (s := { s with heap := h' }) q1 q2 hu (hd _ hm _ hm')) ?_ fun _ _ e => e
    rintro b s' ⟨rfl, rfl⟩
    refine ⟨rfl, ?_⟩
    show _ = SrtO.lexB (k p.1) (k q.1)
    split
    · rename_i e
      rw [e]
      exact ((swo_lexK k).refl q.1).symm
    · rfl
where
  swo_lexK (k : Value → Int × Int) : SrtO.Swo fun v u => SrtO.lexB (k v) (k u) := SrtO.swo_lex k
end
/-! insertion by keys -/
def insBy {α : Type} (k : α → Int × Int) (x : α) : List α → List α
  | [] => [x]
  | y :: r => if SrtO.lexB (k y) (k x) then y :: insBy k x r else x :: y :: r
def sortBy {α : Type} (k : α → Int × Int) : List α → List α
  | [] => []
  | x :: r => insBy k x (sortBy k r)
theorem insBy_perm {α : Type} (k : α → Int × Int) (x : α) : ∀ l, (insBy k x l).Perm (x :: l)
  | [] => .refl _
  | y :: r => by
    unfold insBy
    split
    · exact ((insBy_perm k x r).cons y).trans (.swap _ _ _)
    · exact .refl _
theorem sortBy_perm {α : Type} (k : α → Int × Int) : ∀ l, (sortBy k l).Perm l
  | [] => .refl _
  | x :: r => (insBy_perm k x _).trans ((sortBy_perm k r).cons x)
theorem insBy_ord {α : Type} (k : α → Int × Int) (x : α) : ∀ {l : List α}, l.Pairwise (fun a b => SrtO.lexB (k b) (k a) = false) → (insBy k x l).Pairwise (fun a b => SrtO.lexB (k b) (k a) = false)
  | [], _ => List.pairwise_singleton _ _
  | y :: r, h => by
    have h' := List.pairwise_cons.mp h
    unfold insBy
    split
    · rename_i c
      refine List.pairwise_cons.mpr ⟨fun z hz => ?_, insBy_ord k x h'.2⟩
      rcases List.mem_cons.mp ((insBy_perm k x r).mem_iff.mp hz) with rfl | hz
      · have a := SrtO.lexB_iff.mp c
        refine SrtO.lexB_no.mpr ?_
        omega
      · exact h'.1 z hz
    · rename_i c
      have c := SrtO.lexB_no.mp (Bool.not_eq_true _ ▸ c)
      refine List.pairwise_cons.mpr ⟨fun z hz => ?_, h⟩
      rcases List.mem_cons.mp hz with rfl | hz
      · exact SrtO.lexB_no.mpr c
      · have b := SrtO.lexB_no.mp (h'.1 z hz)
        refine SrtO.lexB_no.mpr ?_
        omega
theorem sortBy_ord {α : Type} (k : α → Int × Int) : ∀ l : List α, (sortBy k l).Pairwise (fun a b => SrtO.lexB (k b) (k a) = false)
  | [] => List.Pairwise.nil
  | x :: r => insBy_ord k x (sortBy_ord k r)
theorem insBy_map {α β : Type} (f : α → β) (k : β → Int × Int) (x : α) : ∀ l, (insBy (fun a => k (f a)) x l).map f = insBy k (f x) (l.map f)
  | [] => rfl
  | y :: r => by
    unfold insBy
    rw [List.map_cons]
    simp only
    split
    · rw [List.map_cons, insBy_map f k x r]
    · rfl
theorem sortBy_map {α β : Type} (f : α → β) (k : β → Int × Int) : ∀ l, (sortBy (fun a => k (f a)) l).map f = sortBy k (l.map f)
  | [] => rfl
  | x :: r => by
    show (insBy _ x (sortBy _ r)).map f = insBy k (f x) (sortBy k (r.map f))
    rw [insBy_map, sortBy_map f k r]
/-! sorted: ints, or pairs of a score and something, the scores all unlike -/
def keyD : D → Int × Int
  | .tup [.tup [.int a, .int b], _] => (a, b)
  | _ => (0, 0)
def keyedOk (S : Sto) : D → Bool
  | .tup [.tup [.int _, .int _], y] => match toP S y with
    | some p => SeqAt.shaped p
    | none => false
  | _ => false
def sortedD : OpN := fun ds S => match ds with
  | [d] => match seqOf S d with
    | some xs => match intsOf xs with
      | some ns => some (.lst ((sortI ns).map .int))
      | none => if xs.all (keyedOk S) && decide ((xs.map keyD).Nodup) then some (.lst (sortBy keyD xs)) else none
    | none => none
  | _ => none
/-- the three sights of the items -/
def Trip (h : Heap) (A : List Addr) (G : Hp) (K : PySem.W.Frag) (t : Value × V × D) : Prop := RelV t.2.1 t.1 ∧ DR A G K t.2.1 t.2.2 ∧ kfv h t.1 = keyD t.2.2 ∧ ∃ p, Keyed2 h t.1 (kfv h t.1) p
theorem trips {h : Heap} {A : List Addr} {G : Hp} {K : PySem.W.Frag} : ∀ {us : List Value} {vs : List V} {ds : List D}, Vals vs us → DRs A G K vs ds → (∀ v d u, RelV v u → DR A G K v d → d ∈ ds → ∃ p, Keyed2 h u (keyD d) p) →
    ∃ T : List (Value × V × D), T.map (·.1) = us ∧ T.map (·.2.1) = vs ∧ T.map (·.2.2) = ds ∧ ∀ t ∈ T, Trip h A G K t
  | _, _, [], r, q, _ => by
    cases q; cases r
    exact ⟨[], rfl, rfl, rfl, fun _ m => by cases m⟩
  | _, _, d :: ds, r, q, f => by
    cases q with
    | cons q1 q2 =>
      cases r with
      | cons r1 r2 =>
        obtain ⟨T, h1, h2, h3, h4⟩ := trips r2 q2 fun v e u a b m => f v e u a b (List.mem_cons_of_mem _ m)
        obtain ⟨p, kd⟩ := f _ _ _ r1 q1 List.mem_cons_self
        refine ⟨(_, _, d) :: T, by rw [List.map_cons, h1], by rw [List.map_cons, h2], by rw [List.map_cons, h3], fun t m => ?_⟩
        rcases List.mem_cons.mp m with rfl | m
        · have e := kfv_at kd
          exact ⟨r1, q1, e, p, by rw [e]; exact kd⟩
        · exact h4 t m
theorem trip_vals {h : Heap} {A : List Addr} {G : Hp} {K : PySem.W.Frag} : ∀ {T : List (Value × V × D)}, (∀ t ∈ T, Trip h A G K t) → Vals (T.map (·.2.1)) (T.map (·.1)) ∧ DRs A G K (T.map (·.2.1)) (T.map (·.2.2))
  | [], _ => ⟨.nil, .nil⟩
  | t :: T, q => by
    have ⟨a, b⟩ := trip_vals fun u m => q u (List.mem_cons_of_mem _ m)
    have c := q t List.mem_cons_self
    exact ⟨.cons c.1 a, .cons c.2.1 b⟩
theorem nodup_pick {α β : Type} (f : α → β) : ∀ {l : List α}, (l.map f).Nodup → ∀ {a b : α}, a ∈ l → b ∈ l → f a = f b → a = b
  | [], _, a, b, h, _, _ => by cases h
  | x :: l, hn, a, b, ha, hb, e => by
    have hn := List.nodup_cons.mp (List.map_cons ▸ hn)
    rcases List.mem_cons.mp ha with ha | ha <;> rcases List.mem_cons.mp hb with hb | hb
    · rw [ha, hb]
    · exact absurd (List.mem_map.mpr ⟨b, hb, by rw [← e, ha]⟩) hn.1
    · exact absurd (List.mem_map.mpr ⟨a, ha, by rw [e, hb]⟩) hn.1
    · exact nodup_pick f hn.2 ha hb e
theorem cd_sorted {X : Cx} (hu : X.A.units + 66 < cLine) : CallR X (.builtin "sorted") (rDs X.K sortedD) := by
  intro pins s σ H vs us Q I r ⟨A, Z, S, ds, d, ok, h, e, q⟩
  unfold sortedD at e
  split at e
  · rename_i d0
    cases h with
    | cons h1 h2 =>
      cases h2
      split at e
      · rename_i xs e1
        obtain ⟨a, ws, rfl, k1, k2⟩ := seqOf_at ok h1 e1
        split at e
        · rename_i ns e2
          cases e
          have ew := intsOf_map e2 k2
          subst ew
          refine cr_sortedI pins s σ H _ us Q I r ⟨a, ns, rfl, k1, fun ns' p hp ho hn => ?_⟩
          have en : ns' = sortI ns := ord_one (hp.trans (sortI_perm ns).symm) ho (sortI_ord ns)
          subst en
          exact q A _ _ (.new ok hn) (new_lst ok hn (drs_ints _))
        · split at e
          · rename_i c
            cases e
            rw [Bool.and_eq_true, List.all_eq_true, decide_eq_true_eq] at c
            obtain ⟨c1, c2⟩ := c
            obtain ⟨its, rv, hl, hz⟩ := I.list k1
            rw [Vals.ref1 r]
            obtain ⟨T, t1, t2, t3, t4⟩ := trips (h := s.heap) rv k2 fun v x u ru rd m => by
              have c3 := c1 x m
              unfold keyedOk at c3
              split at c3
              · rename_i i j y
                split at c3
                · rename_i p ep
                  obtain ⟨b, ks, rfl, m1, m2⟩ := tup_at rd
                  obtain rfl : u = .ref b := ru
                  cases m2 with
                  | cons m2 m3 =>
                    cases m3 with
                    | cons m3 m4 =>
                      cases m4
                      obtain ⟨b2, ks2, rfl, n1, n2⟩ := tup_at m2
                      cases n2 with
                      | cons n2 n3 =>
                        cases n3 with
                        | cons n3 n4 =>
                          cases n4; cases n2; cases n3
                          obtain ⟨i1, rv1, ⟨o1, p1, p2, np, p3⟩, _⟩ := I.tuple m1
                          obtain ⟨i2, rv2, ⟨o2, p4, p5, nq, p6⟩, _⟩ := I.tuple n1
                          cases rv1 with
                          | cons g1 g2 =>
                            cases g2 with
                            | cons g2 g3 =>
                              cases g3
                              obtain rfl := g1
                              cases rv2 with
                              | cons l1 l2 =>
                                cases l2 with
                                | cons l2 l3 =>
                                  cases l3
                                  obtain ⟨tk1, rfl⟩ := l1
                                  obtain ⟨tk2, rfl⟩ := l2
                                  obtain ⟨as, ra⟩ := Dp.reads I _ _ _ (toP_at ok m3 ep) g2
                                  exact ⟨p, b, o1, b2, _, np, tk1, tk2, as, rfl, p1, p2, p3, ⟨o2, p4, p5, nq, p6⟩, ra, c3⟩
                · cases c3
              · cases c3
            have hk : ∀ v ∈ its, ∃ p, Keyed2 s.heap v (kfv s.heap v) p := fun v m => by
              rw [← t1] at m
              obtain ⟨t, m', rfl⟩ := List.mem_map.mp m
              exact (t4 t m').2.2.2
            have hnd : (T.map fun t => keyD t.2.2).Nodup := by
              have z : (T.map fun t => keyD t.2.2) = (T.map (·.2.2)).map keyD := by rw [List.map_map]; rfl
              rw [z, t3]
              exact c2
            have hdis : ∀ v ∈ its, ∀ u ∈ its, v = u ∨ kfv s.heap v ≠ kfv s.heap u := fun v mv u mu => by
              rw [← t1] at mv mu
              obtain ⟨t, mt, rfl⟩ := List.mem_map.mp mv
              obtain ⟨y, my, rfl⟩ := List.mem_map.mp mu
              by_cases g : kfv s.heap t.1 = kfv s.heap y.1
              · rw [(t4 t mt).2.2.1, (t4 y my).2.2.1] at g
                exact .inl (congrArg Prod.fst (nodup_pick _ hnd mt my g))
              · exact .inr g
            have hzz : its.length ≤ sizeLine := by rw [← rv.length]; exact hz
            refine SrtO.sorted_ord (SrtO.swo_lex (kfv s.heap)) hl.isList hzz (fun h2 h₁ a' ha kk => keyed_sortable (s := { s with heap := h₁ }) (by omega) hk (show X.A.units + 1 + 1 + 64 < cLine by omega) hdis kk) fun out h1 h2 => ?_
            -- out is the list sorted by the keys
            have eo : out = (sortBy (fun t : Value × V × D => keyD t.2.2) T).map (·.1) := by
              refine List.Perm.eq_of_pairwise (le := fun v u => SrtO.lexB (kfv s.heap u) (kfv s.heap v) = false) ?_ h1 ?_ ?_
              · intro v u mv mu l1 l2
                have mv' := h2.perm.mem_iff.mp mv
                have mu' : u ∈ its := by
                  rw [← t1]
                  exact ((sortBy_perm _ T).map _).mem_iff.mp mu
                rcases hdis v mv' u mu' with g | g
                · exact g
                · have a1 := SrtO.lexB_no.mp l1
                  have a2 := SrtO.lexB_no.mp l2
                  exact absurd (Prod.ext (by omega) (by omega)) g
              · refine List.pairwise_map.mpr ((sortBy_ord _ T).imp_of_mem fun {x y} mx my l => ?_)
                have mx' := (sortBy_perm _ T).mem_iff.mp mx
                have my' := (sortBy_perm _ T).mem_iff.mp my
                rw [(t4 x mx').2.2.1, (t4 y my').2.2.1]
                exact l
              · refine h2.perm.trans ?_
                rw [← t1]
                exact ((sortBy_perm _ T).map _).symm
            have t5 : ∀ t ∈ sortBy (fun t : Value × V × D => keyD t.2.2) T, Trip s.heap A (cut A Z S H) X.K t := fun t m => t4 t ((sortBy_perm _ T).mem_iff.mp m)
            obtain ⟨v1, v2⟩ := trip_vals t5
            rw [sortBy_map (fun t : Value × V × D => t.2.2) keyD T, t3] at v2
            rw [← eo] at v1
            obtain ⟨ep, he'⟩ := PyProof.Rows.sortedAll_at s.heap its out.toArray
            refine ⟨.ref _, upd H (s.heap.objs.size + 1) (.lst _), I.laid (t' := s.toks) (fun _ _ => PyProof.Rows.sortedAll_old) (Nat.le_succ _) ⟨?_, out, ep, v1, he'⟩, rfl, q A _ _ (.new ok (I.hok.fresh (Nat.le_succ _))) (new_lst ok (I.hok.fresh (Nat.le_succ _)) v2)⟩
            rw [v1.length, h2.perm.length_eq]
            exact hzz
          · cases e
      · cases e
  · cases e
end DL

set_option maxHeartbeats 2000000
namespace DL
open PySem PySem.Spec PyProof.Rows L2
/-! ### at a def's end the lists that it made for itself are forgotten -/
mutual
def noCel : D → Bool
  | .cel _ => false
  | .lst xs => noCels xs
  | .kls xs => noCels xs
  | .tup xs => noCels xs
  | .dct [] => true
  | .dct _ => false
  | _ => true
def noCels : List D → Bool
  | [] => true
  | d :: ds => noCel d && noCels ds
end
def coFree : CO → Bool
  | .lst xs => noCels xs
  | .lk xs => noCels xs
  | .gone => true
section
variable {K : PySem.W.Frag} {A B A' Z : List Addr} {S T S' : Sto} {H I H' : Hp} {G G' : Hp}
mutual
theorem DR.free (e : ∀ b o, G b = some o → G' b = some o) : ∀ {v : V} {d : D}, noCel d = true → DR A G K v d → DR A' G' K v d
  | _, _, _, .non => .non
  | _, _, _, .bl b => .bl b
  | _, _, _, .int i => .int i
  | _, _, _, .str x => .str x
  | _, .lst _, f, .lst h r => .lst (e _ _ h) (DRs.free e (by unfold noCel at f; exact f) r)
  | _, .kls _, f, .kls h r => .kls (sql_mono e h) (DRs.free e (by unfold noCel at f; exact f) r)
  | _, .tup _, f, .tup h r => .tup (sqt_mono e h) (DRs.free e (by unfold noCel at f; exact f) r)
  | _, _, _, .dct0 h => .dct0 (e _ _ h)
  | _, .cel _, f, .cel h => by simp [noCel] at f
  | _, _, _, .fn f => .fn f
theorem DRs.free (e : ∀ b o, G b = some o → G' b = some o) : ∀ {vs : List V} {ds : List D}, noCels ds = true → DRs A G K vs ds → DRs A' G' K vs ds
  | _, _, _, .nil => .nil
  | _, _ :: _, f, .cons h r => by
    simp only [noCels, Bool.and_eq_true] at f
    exact .cons (DR.free e f.1 h) (DRs.free e f.2 r)
end
theorem cut_take {n : Nat} : ∀ b o, cut B Z T I b = some o → cut (B.take n) Z (T.take n) I b = some o := fun b o e => by
  obtain ⟨e1, e2, e3⟩ := cut_some.mp e
  refine cut_some.mpr ⟨e1, e2, fun ⟨i, c, h1, h2, h3⟩ => e3 ⟨i, c, ?_, ?_, h3⟩⟩
  · exact pre_get (List.take_prefix n B) h1
  · exact pre_get (List.take_prefix n T) h2
where
  pre_get {α : Type} {l m : List α} (p : l <+: m) {i : Nat} {x : α} (h : l[i]? = some x) : m[i]? = some x := by
    obtain ⟨t, rfl⟩ := p
    rw [List.getElem?_append_left (List.getElem?_eq_some_iff.mp h).1]
    exact h
theorem Grow.take (ok0 : SOk K A Z S H) (g : Grow K Z A S H B T I) (hf : (T.take S.length).all coFree = true) : Grow K Z A S H (B.take S.length) (T.take S.length) I := by
  have hl : S.length ≤ B.length := by rw [← ok0.len]; exact g.pre.length_le
  refine ⟨?_, ⟨by rw [List.length_take, List.length_take, g.ok.len], g.ok.nd.sublist (List.take_sublist _ _), fun a ha => g.ok.there a (List.mem_of_mem_take ha), fun b hb => ⟨(g.ok.hid b hb).1, fun q => (g.ok.hid b hb).2 (List.mem_of_mem_take q)⟩, fun i c ds hc hd => ?_⟩,
    fun b o e => cut_take b o (g.ex b o e), g.hid, fun i ds e => ?_⟩
  · rw [← ok0.len]
    obtain ⟨t, rfl⟩ := g.pre
    rw [List.take_left]
    exact List.prefix_refl _
  · have hi : i < S.length := by
      have := (List.getElem?_eq_some_iff.mp hc).1
      rw [List.length_take] at this
      omega
    have hm : c ∈ T.take S.length := List.mem_of_getElem? hc
    rw [List.getElem?_take_of_lt hi] at hc
    obtain ⟨a, vs, h1, h2, h3⟩ := g.ok.at_ i c ds hc hd
    have f := List.all_eq_true.mp hf c hm
    refine ⟨a, vs, by rw [List.getElem?_take_of_lt hi]; exact h1, h2, DRs.free cut_take ?_ h3⟩
    rcases hd with rfl | rfl <;> exact f
  · have hi := (List.getElem?_eq_some_iff.mp e).1
    rw [List.getElem?_take_of_lt hi]
    exact g.lk i ds e
def tidy (n : Nat) (r : Res D) : Res D := match r with
  | .ok d T => if noCel d && (T.take n).all coFree then .ok d (T.take n) else .bad
  | .err c d T => if noCel d && (T.take n).all coFree then .err c d (T.take n) else .bad
  | .bad => .bad
def bodyT (N : List Str) (n : Nat) (f : FS) (ds : List D) (S : Sto) : Res D := tidy S.length (bodyD N n f ds S)
theorem Post.tidy {W : WX} {ca : Str → Addr} {σ : L2.St} {r : Res D} {P : V → Hp → Prop} (ok0 : SOk K A Z S H) (h : Post K W ca A Z S H σ (tidy S.length r) fun B T I d => ∀ v, DR B (cut B Z T I) K v d → P v I) :
    Post K W ca A Z S H σ r fun B T I d => ∀ v, DR B (cut B Z T I) K v d → P v I := by
  cases r with
  | bad => exact h
  | ok d T =>
    unfold DL.tidy at h
    simp only at h
    split at h
    · rename_i c
      rw [Bool.and_eq_true] at c
      exact fun B I g v rv => h _ _ (g.take ok0 c.2) v (rv.free cut_take c.1)
    · exact h.elim
  | err cl d T =>
    unfold DL.tidy at h
    simp only at h
    split at h
    · rename_i c
      rw [Bool.and_eq_true] at c
      exact fun B I dx v σ' g hx rv => h _ _ dx v σ' (g.take ok0 c.2) hx (rv.free cut_take c.1)
    · exact h.elim
end
section
variable {P : Program} {w : World} {K : PySem.W.Frag} {mg : Str → Option Value} {base : Heap} {ca : Str → Addr} {x : Str} {ps : List Str}
/-- a def's lists forgotten at its end -/
theorem Def.tidy {k : Nat} {g : List D → Sto → Res D} (d : Def P w K mg base ca x ps k g) : Def P w K mg base ca x ps k (fun ds S => DL.tidy S.length (g ds S)) :=
  let ⟨f, fd, a, b, c, F⟩ := d.ex
  ⟨f, fd, a, b, c, F.imp fun vs H Q E ⟨A, Z, S, ds, h1, h2, h3, h4⟩ => ⟨A, Z, S, ds, h1, h2, h3, Post.tidy h1 h4⟩⟩
/-- what the top has written of a def -/
structure Std (K : PySem.W.Frag) (mg : Str → Option Value) (x : Str) (st : Stmt) (ps : List Str) : Prop where
  ex : ∃ f fd, mg x = some (.ref f) ∧ Fun K x x st f fd ∧ L2.Binds K fd ps []
abbrev CXof (P : Program) (w : World) (K : PySem.W.Frag) (mg : Str → Option Value) (base : Heap) (N : List Str) (x : Str) (st : Stmt) (f : Addr) (cdv : Value) (A : Around) (outer : List PySem.Env) (s : Shared) (H : Hp) (E : XK) : Cx :=
  cxOf (L2.CX P w) P w K mg base N x (defScope st) f cdv A outer s H E
/-- the rule for a def, as the texts that are printed use it -/
theorem def_D {st : Stmt} {N : List Str} {k : Nat} {fs : FS} (T : Std K mg x st ps) (S : FnScope N ps (defScope st))
    (body : ∀ (f : Addr) (cdv : Value) (A : Around) (outer : List PySem.Env) (s : Shared) (H : Hp) (E : XK), Room k (CXof P w K mg base N x st f cdv A outer s H E).A → (CXof P w K mg base N x st f cdv A outer s H E).A.guards = some [] →
      Takes (CXof P w K mg base N x st f cdv A outer s H E) (WD E) → PassesOwn (model P w) (CXof P w K mg base N x st f cdv A outer s H E).A (CXof P w K mg base N x st f cdv A outer s H E).env (CXof P w K mg base N x st f cdv A outer s H E).xe →
      SSs (CXof P w K mg base N x st f cdv A outer s H E) (WD E) ca (defBody st) fs) : Def P w K mg base ca x ps (k + 1) (bodyD N ps.length fs) := by
  obtain ⟨f, fd, hm, F, hb⟩ := T.ex
  exact def_of hm F S hb (fun cdv A outer s H E hr hgu tk hp => body f cdv A outer s H E hr hgu tk hp) fun _ _ _ _ => rfl
theorem def_T {st : Stmt} {N : List Str} {k : Nat} {fs : FS} (T : Std K mg x st ps) (S : FnScope N ps (defScope st))
    (body : ∀ (f : Addr) (cdv : Value) (A : Around) (outer : List PySem.Env) (s : Shared) (H : Hp) (E : XK), Room k (CXof P w K mg base N x st f cdv A outer s H E).A → (CXof P w K mg base N x st f cdv A outer s H E).A.guards = some [] →
      Takes (CXof P w K mg base N x st f cdv A outer s H E) (WD E) → PassesOwn (model P w) (CXof P w K mg base N x st f cdv A outer s H E).A (CXof P w K mg base N x st f cdv A outer s H E).env (CXof P w K mg base N x st f cdv A outer s H E).xe →
      SSs (CXof P w K mg base N x st f cdv A outer s H E) (WD E) ca (defBody st) fs) : Def P w K mg base ca x ps (k + 1) (bodyT N ps.length fs) := (def_D T S body).tidy
/-- the law's own def -/
theorem law_D {st : Stmt} {N : List Str} {k : Nat} {fs : FS} {f : Addr} {fd : FuncData} (F : Fun K x x st f fd) (S : FnScope N ps (defScope st))
    (body : ∀ (cdv : Value) (A : Around) (outer : List PySem.Env) (s : Shared) (H : Hp) (E : XK), Room k (CXof P w K mg base N x st f cdv A outer s H E).A → (CXof P w K mg base N x st f cdv A outer s H E).A.guards = some [] →
      Takes (CXof P w K mg base N x st f cdv A outer s H E) (WD E) → PassesOwn (model P w) (CXof P w K mg base N x st f cdv A outer s H E).A (CXof P w K mg base N x st f cdv A outer s H E).env (CXof P w K mg base N x st f cdv A outer s H E).xe →
      SSs (CXof P w K mg base N x st f cdv A outer s H E) (WD E) ca (defBody st) fs) : FnG P w K mg base (k + 1) f fd ps (spD K ca ps.length (bodyD N ps.length fs)) :=
  fnG_D F S (fun cdv A outer s H E hr hgu tk hp => body cdv A outer s H E hr hgu tk hp) fun _ _ _ _ => rfl
/-- nothing is asked of a def that is never called -/
theorem Std.never {st : Stmt} {k : Nat} (T : Std K mg x st ps) : Def P w K mg base ca x ps k (fun _ _ => .bad) := by
  obtain ⟨f, fd, hm, F, hb⟩ := T.ex
  have no : ∀ vs H Q E, ¬ spD K ca ps.length (fun _ _ => .bad) vs H Q E := fun vs H Q E ⟨A, Z, S, ds, _, _, _, h⟩ => h
  exact ⟨f, fd, hm, F.kp, hb, fun vs H Q E h => absurd h (no vs H Q E), fun A outer s H args us vs Q E _ _ _ _ _ h => absurd h (no vs H Q E)⟩
end
section
variable {X : Cx} {W : WX} {ca : Str → Addr} {e a b : Expr} {es : List Expr} {pos : Pos}
/-! a new list that may change, by + -/
def addC (x y : D) (S : Sto) : Option (List D) := match addD x y S with
  | some (.lst xs) => some xs
  | _ => none
def fAddC (fa fb : FE) : FE := fun ρ S => (fa ρ S).bind fun x S1 => (fb ρ S1).bind fun y S2 => match addC x y S2 with
  | some xs => .ok (.cel S2.length) (S2 ++ [.lst xs])
  | none => .bad
theorem addC_at {S : Sto} {x y : D} {xs : List D} (h : addC x y S = some xs) : ∃ a b, lstOf S x = some a ∧ lstOf S y = some b ∧ a.length + b.length ≤ capN ∧ xs = a ++ b := by
  unfold addC at h
  split at h
  · rename_i zs e
    cases h
    unfold addD at e
    split at e
    · cases e
    · split at e <;> cases e
    · split at e <;> cases e
    · split at e
      · rename_i a b e1 e2
        split at e
        · rename_i c
          cases e
          exact ⟨a, b, e1, e2, c, rfl⟩
        · cases e
      · cases e
  · cases h
theorem se_addC {fa fb : FE} (ha : SE X W ca a fa) (hb : SE X W ca b fb) : SE X W ca (.BinOp a .Add b pos) (fAddC fa fb) := by
  refine se_of (pe_op op_cat ha.pe hb.pe) fun σ H Q ⟨A, Z, S, ρ, ok, sl, p⟩ => ?_
  refine ⟨A, Z, S, ρ, ok, sl, (Post.split p).imp fun B T I x g q v rv => ?_⟩
  refine ⟨B, Z, T, ρ, g.ok, sl.grow g, (Post.split q).imp fun C U J y g2 q2 w rw_ => ?_⟩
  cases e : addC x y U with
  | none => rw [e] at q2; exact q2.elim
  | some xs =>
    rw [e] at q2
    obtain ⟨m, n, e1, e2, hc, rfl⟩ := addC_at e
    obtain ⟨l, vs, rfl, h1, h2⟩ := lstOf_at g2.ok (rv.grow g2) e1
    obtain ⟨k, ws, rfl, k1, k2⟩ := lstOf_at g2.ok rw_ e2
    exact ⟨l, k, vs, ws, rfl, rfl, h1, k1, by rw [h2.length, k2.length]; exact capN_le hc, fun p hp => q2 _ _ (.cell g2.ok hp (h2.append k2)) _ (new_cel g2.ok)⟩
theorem se_dict0 : SE X W ca (.Dict [] [] pos) (fC (.dct [])) := se_of pe_dnewK fun σ H Q ⟨A, Z, S, ρ, ok, sl, p⟩ => fun r hr => p A _ (.new ok hr) _ (.dct0 (cut_new ok hr))
theorem tk0 {Y : Cx} : Takes Y W0 := fun u s' ⟨a, B, sI, pins, σ, H, cls, d, e, I, nb, up, sky, na, os, ag, h⟩ => h.elim
end
end DL

set_option maxHeartbeats 2000000
namespace DL
open PySem PySem.Spec PyProof.Rows L2
/-- the heap of which only the script is known -/
structure Bare1 (H : Hp) (a : Addr) (o : Obj) (xs : List V) : Prop where
  at_ : H a = some (.frz o (.lst xs))
  non : ∀ b, b ≠ a → H b = none
/-- the law's promise, seen from the script -/
def LawOk (g : List D → Sto → Res D) (n : Nat) : Prop := ∀ ns : List Int, ns.length ≤ n → (∀ z ∈ ns, Builtin.Int.intBits z ≤ 1048576) → ∃ S, g [.kls (ns.map D.int)] [] = .ok (.bl true) S
section
variable {P : Program} {w : World} {K : PySem.W.Frag} {mg mb : Str → Option Value} {ca : Str → Addr} {k : Nat} {fa a : Addr} {fd : FuncData} {x : Str} {g : List D → Sto → Res D} {s1 : Shared} {us : List Value} {ns : List Int}
theorem sok_nil {H : Hp} : SOk K [] [] [] H := ⟨rfl, List.nodup_nil, fun _ h => (nomatch h), fun _ h => (nomatch h), fun i c ds h => (by simp at h)⟩
theorem cut_nil {H : Hp} : cut [] [] [] H = H := rfl
theorem drs_script {H : Hp} (h : SqL K H a (ns.map V.int)) : DRs [] (cut [] [] [] H) K [.ref a] [.kls (ns.map D.int)] := .cons (.kls h (drs_ints ns)) .nil
/-- one run of the law, from a heap H that tells nothing or the script alone -/
theorem run_law {H : Hp} (inK : K.In s1.heap) (top : s1.heap.Ns mainGlobals mg) (bn : s1.heap.Ns builtinsNs mb) (bt : ∀ y : Str, y ≠ "__name__" → mb y = bootBuiltins y) (fr : s1.heap.NoLimit) (gn : s1.gens = #[])
    (obj : s1.heap.get? a = some { cls := .type "list", data := .seq us.toArray }) (room : Room k callerA)
    (F : ∀ base : Heap, K.In base → base.Ns mainGlobals mg → FnG P w K mg base k fa fd [x] (spD K ca 1 g)) (bd : ∀ (s : Shared) (u : Value), BindsTo s fd ⟨[u], []⟩ [(x, u)])
    (hg : ∃ S, g [.kls (ns.map D.int)] [] = .ok (.bl true) S) (seen : SqL K H a (ns.map V.int)) (okH : HOk P w H s1.heap) (only : ∀ b, H b ≠ none → b = a ∧ K.lookup b = none) (frz : ∀ b u, H b = some u → ∃ o xs, u = .frz o (.lst xs)) :
    codeAny (model P w) callerA (.call (.ref fa) ⟨[.ref a], []⟩) (fun r s2 => r = .ok (.ret (.bool true)) ∧ OldK s1.heap s2.heap ∧ s2.os = s1.os ∧ AllBare s2.gens) s1 := by
  have dictFree : ∀ {b : Addr} {o : Obj} {es : Array DictEntry} {ep : Nat}, s1.heap.get? b = some o → o.data = .dict es ep → H b = none := fun {b o es ep} e1 e2 => by
    cases eH : H b with
    | none => rfl
    | some u =>
      obtain rfl := (only b (by rw [eH]; exact fun z => nomatch z)).1
      rw [obj] at e1
      cases e1
      exact nomatch e2
  have low : ∀ {b : Addr} {m : Str → Option Value}, s1.heap.Ns b m → (hidT s1.heap H).Ns b m := fun {b m} ⟨o, es, ep, e1, e2, e3⟩ => ⟨o, es, ep, hidT_get e1 (dictFree e1 e2), e2, e3⟩
  have kIn : K.In (hidT s1.heap H) := fun b o e1 => hidT_get (inK b o e1) (by
    cases eH : H b with
    | none => rfl
    | some u =>
      have z := (only b (by rw [eH]; exact fun z => nomatch z)).2
      rw [z] at e1
      cases e1)
  obtain ⟨mc, f1, f2⟩ := fr
  have M : Mod K mg (hidT s1.heap H) := ⟨kIn, low top, ⟨mb, low bn, bt⟩, ⟨mc, low f1, f2⟩⟩
  have E0 : Env0 P w K mg (hidT s1.heap H) callerA [] s1 H := by
    refine ⟨rfl, M, fun b o e1 => of_hidT e1, Nat.le_of_eq (hidT_size _ _), trivial, fun b hb => (nomatch hb), okH, .of_eq gn⟩
  obtain ⟨S, eg⟩ := hg
  have prom : spD K ca 1 g [.ref a] H (fun v _ => v = .bl true) (fun _ _ _ => False) := by
    refine ⟨[], [], [], [.kls (ns.map D.int)], sok_nil, drs_script seen, rfl, ?_⟩
    rw [eg]
    exact fun B I gr v rv => by cases rv; rfl
  have go := (F _ kIn (low top)).run callerA [] s1 H ⟨[.ref a], []⟩ [.ref a] [.ref a] _ _ room rfl E0 (bd s1 (.ref a)) (.cons rfl .nil) prom
  refine codeAny_mono go ?_
  rintro (e | fl) s2 h
  · obtain ⟨_, _, _, _, _, _, _, _, _, _, _, _, _, _, _, _, _, h⟩ := h
  · cases fl with
    | ret u =>
      obtain ⟨v, H2, e1, e2, e3, e4, e5, e6⟩ := h
      subst e6
      obtain rfl : u = Value.bool true := e5
      refine ⟨rfl, OldK.of_keep fun b o e7 => ?_, e1, e2⟩
      cases eH : H b with
      | none => exact e3.keep b o e7 eH (fun z => nomatch z) (fun z => nomatch z)
      | some q =>
        obtain ⟨ob, xs, rfl⟩ := frz b q eH
        have k2 := e3.frzs b ob _ eH
        obtain ⟨g1, _⟩ := okH b _ eH
        obtain ⟨g2, _⟩ := e4 b _ k2
        rw [e7] at g1
        cases g1
        exact g2
    | next => exact False.elim h
    | brk => exact False.elim h
    | cont => exact False.elim h
theorem run_law2 (inK : K.In s1.heap) (top : s1.heap.Ns mainGlobals mg) (bn : s1.heap.Ns builtinsNs mb) (bt : ∀ y : Str, y ≠ "__name__" → mb y = bootBuiltins y) (fr : s1.heap.NoLimit) (gn : s1.gens = #[])
    (obj : s1.heap.get? a = some { cls := .type "list", data := .seq us.toArray }) (areI : IntsAre us ns) (few : ns.length ≤ sizeLine) (room : Room k callerA)
    (F : ∀ base : Heap, K.In base → base.Ns mainGlobals mg → FnG P w K mg base k fa fd [x] (spD K ca 1 g)) (bd : ∀ (s : Shared) (u : Value), BindsTo s fd ⟨[u], []⟩ [(x, u)])
    (hg : ∃ S, g [.kls (ns.map D.int)] [] = .ok (.bl true) S) :
    codeAny (model P w) callerA (.call (.ref fa) ⟨[.ref a], []⟩) (fun r s2 => r = .ok (.ret (.bool true)) ∧ OldK s1.heap s2.heap ∧ s2.os = s1.os ∧ AllBare s2.gens) s1 := by
  have rv := vals_ints areI
  have eqn := areI.length
  cases hk : K.lookup a with
  | some o =>
    have e := inK a o hk
    rw [obj] at e
    cases e
    refine run_law (H := fun _ => none) inK top bn bt fr gn obj room F bd hg ?_ (fun b u z => nomatch z) (fun b z => absurd rfl z) (fun b u z => nomatch z)
    exact .inr ⟨_, us.toArray, _, hk, rfl, rfl, rfl, by rw [List.size_toArray, eqn]; exact few, by simpa using rv⟩
  | none =>
    let H1 : Hp := fun b => if b = a then some (.frz { cls := .type "list", data := .seq us.toArray } (.lst (ns.map V.int))) else none
    have at1 : H1 a = some (.frz { cls := .type "list", data := .seq us.toArray } (.lst (ns.map V.int))) := if_pos rfl
    have off : ∀ b, b ≠ a → H1 b = none := fun b z => if_neg z
    refine run_law (H := H1) inK top bn bt fr gn obj room F bd hg (.inl (.inr ⟨_, at1⟩)) (fun b u z => ?_) (fun b z => ?_) (fun b u z => ?_)
    · by_cases c : b = a
      · subst c
        rw [at1] at z
        cases z
        exact ⟨obj, by rw [List.length_map]; exact few, us, _, rv, obj⟩
      · rw [off b c] at z
        cases z
    · by_cases c : b = a
      · subst c
        exact ⟨rfl, hk⟩
      · exact absurd (off b c) z
    · by_cases c : b = a
      · subst c
        rw [at1] at z
        cases z
        exact ⟨_, _, rfl⟩
      · rw [off b c] at z
        cases z
end
/-- THE END: the goal that k_head leaves, from the def of the law -/
theorem walk_D {l : PySem.W.OpenLaw} {n k : Nat} {q : Program} {loose : List Str} {XP : (Str → Option Value) → Heap → Prop} {YP : World → Heap → Prop} {d : DefRec} {K : Params → PySem.W.Frag} {g : List D → Sto → Res D} {x : Str}
    (hn : l.most = some n) (hn2 : n ≤ sizeLine) (hdf : d.params.defaults = []) (room : Room k callerA) (hY : ∀ (w : World) (h : Heap), YP w h → (K w.params).In h)
    (F : ∀ (w : World) (mg : Str → Option Value) (fa : Addr) (h : Heap), (K w.params).In h → h.Ns mainGlobals mg → mg d.name = some (.ref fa) →
      ∃ (fd : FuncData) (ca : Str → Addr), (∀ (s : Shared) (u : Value), BindsTo s fd ⟨[u], []⟩ [(x, u)]) ∧ ∀ base : Heap, (K w.params).In base → base.Ns mainGlobals mg → FnG l.prog w (K w.params) mg base k fa fd [x] (spD (K w.params) ca 1 g))
    (hg : LawOk g n) : PySem.W.WalkO q loose XP YP l.row.toRowW d [] (fun f vs => PySem.call f vs) := by
  refine Att.attach_callB hn hdf fun w s0 s1 mg mb fa o pm cd doc a us ns G Y h1 h2 h3 h4 h5 h6 h7 h8 h9 => ?_
  have inK := hY w _ Y
  obtain ⟨fd, ca, bd, F2⟩ := F w mg fa _ inK G.T.g h4
  exact run_law2 inK G.T.g G.T.b G.T.builtins G.T.nolimit h9 h5 h6 (Nat.le_trans h7 hn2) room F2 bd (hg ns h7 h8)
end DL

set_option maxHeartbeats 2000000
namespace DL
open PySem PySem.Spec PyProof.Rows L2
section
variable {X : Cx} {W : WX} {ca : Str → Addr} {e a b c : Expr} {es : List Expr} {pos : Pos}
theorem ss_par {i j : Nat} {x y : Str} {f : FA} {px py pt : Pos} {kt k2 pt2} (hc : X.calm = true) (hN : X.N.Nodup) (hi : X.N[i]? = some x) (hj : X.N[j]? = some y) (hij : i ≠ j)
    (ha : SA X W ca [a, b] f) (hx : X.env.scope.names.lookup x = some .local := by rfl) (hy : X.env.scope.names.lookup y = some .local := by rfl)
    (hw : swappedStores [.Tuple [.Name x px, .Name y py] kt pt] (.Tuple [a, b] k2 pt2) X.env = pure (some [x, y]) := by rfl)
    (hs : swapsWithSole [.Tuple [.Name x px, .Name y py] kt pt] (.Tuple [a, b] k2 pt2) pos.line X.env = pure false := by rfl) :
    SS X W ca (.Assign [.Tuple [.Name x px, .Name y py] kt pt] (.Tuple [a, b] k2 pt2) pos) (fPar i j f) := ss_of (ps_par hc hN hi hj hij hx hy ha.pa hw hs) fun _ _ _ h => tS_par h
theorem ss_par3 {i j l : Nat} {x y z : Str} {f : FA} {px py pz pt : Pos} {kt k2 pt2} (hc : X.calm = true) (hN : X.N.Nodup) (hi : X.N[i]? = some x) (hj : X.N[j]? = some y) (hl : X.N[l]? = some z) (hij : i ≠ j) (hil : i ≠ l) (hjl : j ≠ l)
    (ha : SA X W ca [a, b, c] f) (hx : X.env.scope.names.lookup x = some .local := by rfl) (hy : X.env.scope.names.lookup y = some .local := by rfl) (hz : X.env.scope.names.lookup z = some .local := by rfl)
    (hw : swappedStores [.Tuple [.Name x px, .Name y py, .Name z pz] kt pt] (.Tuple [a, b, c] k2 pt2) X.env = pure (some [x, y, z]) := by rfl)
    (hs : swapsWithSole [.Tuple [.Name x px, .Name y py, .Name z pz] kt pt] (.Tuple [a, b, c] k2 pt2) pos.line X.env = pure false := by rfl) :
    SS X W ca (.Assign [.Tuple [.Name x px, .Name y py, .Name z pz] kt pt] (.Tuple [a, b, c] k2 pt2) pos) (fPar3 i j l f) := ss_of (L2.ps_par3 hc hN hi hj hl hij hil hjl hx hy hz ha.pa hw hs) fun _ _ _ h => tS_par3 h
/-- a list or a tuple that is walked -/
def fiAny (f : FE) : FI := fun ρ S => (f ρ S).bind fun d S1 => match d with
  | .tup xs => .ok ⟨xs, none⟩ S1
  | d => match iterOf S1 d with
    | some it => .ok it S1
    | none => .bad
theorem si_any {tg l : Expr} {f : FE} (h : SE X W ca l f) : SI X W ca tg l (fiAny f) := ⟨⟨fun pins s σ H R I ⟨A, Z, S, ρ, ok, sl, p⟩ => by
  cases e : f ρ S with
  | bad =>
    unfold fiAny at p
    rw [e] at p
    exact p.elim
  | err cl d T =>
    refine (si_seq (tg := tg) h).pi.run pins s σ H R I ⟨A, Z, S, ρ, ok, sl, ?_⟩
    unfold fiAny at p
    unfold fiSeq
    rw [e] at p ⊢
    exact p
  | ok d T =>
    unfold fiAny at p
    rw [e] at p
    cases d with
    | tup xs =>
      refine (si_tup (tg := tg) h).pi.run pins s σ H R I ⟨A, Z, S, ρ, ok, sl, ?_⟩
      unfold fiTup
      rw [e]
      exact p
    | _ =>
      refine (si_seq (tg := tg) h).pi.run pins s σ H R I ⟨A, Z, S, ρ, ok, sl, ?_⟩
      unfold fiSeq
      rw [e]
      exact p⟩⟩
/-- a text of a module's constant list -/
theorem dr_strs {A : List Addr} {G : Hp} {K : PySem.W.Frag} : ∀ {us : List Value} {xs : List Str}, Vals (xs.map V.str) us → DRs A G K (xs.map V.str) (xs.map D.str)
  | _, [], _ => .nil
  | _, _ :: _, .cons h r => .cons (.str _) (dr_strs r)
end
end DL

set_option maxHeartbeats 2000000
namespace DL
open PySem PySem.Spec PyProof.Rows L2
section
variable {k : Nat} {A : Around}
theorem hu1 (hr : Room k A) : A.units + 1 < cLine := by have := hr.un; omega
theorem hu65 (hr : Room k A) : A.units + 65 < cLine := by have := hr.un; omega
theorem hu66 (hr : Room k A) : A.units + 66 < cLine := by have := hr.un; omega
end
theorem bb_len : bootBuiltins "len" = some (.builtin "len") := by decide +kernel
theorem bb_abs : bootBuiltins "abs" = some (.builtin "abs") := by decide +kernel
theorem bb_sum : bootBuiltins "sum" = some (.builtin "sum") := by decide +kernel
theorem bb_max : bootBuiltins "max" = some (.builtin "max") := by decide +kernel
theorem bb_min : bootBuiltins "min" = some (.builtin "min") := by decide +kernel
theorem bb_repr : bootBuiltins "repr" = some (.builtin "repr") := by decide +kernel
theorem bb_sorted : bootBuiltins "sorted" = some (.builtin "sorted") := by decide +kernel
theorem bb_int : bootBuiltins "int" = some (.type "int") := by decide +kernel
theorem bb_bool : bootBuiltins "bool" = some (.type "bool") := by decide +kernel
theorem bb_str : bootBuiltins "str" = some (.type "str") := by decide +kernel
theorem bb_list : bootBuiltins "list" = some (.type "list") := by decide +kernel
theorem bb_tuple : bootBuiltins "tuple" = some (.type "tuple") := by decide +kernel
theorem bb_dict : bootBuiltins "dict" = some (.type "dict") := by decide +kernel
/-- a constant of the module -/
def GlobC (K : PySem.W.Frag) (mg : Str → Option Value) (x : Str) (d : D) : Prop := ∃ (u : Value) (v : V), mg x = some u ∧ RelV v u ∧ ∀ A G, DR A G K v d
section
variable {X : Cx} {W : WX} {ca : Str → Addr} {e a b c : Expr} {es : List Expr} {pos : Pos}
theorem se_callN {x : Str} {p : Pos} {ps : List Str} {k n : Nat} {g : List D → Sto → Res D} {f : FA} (d : Def X.prog X.w X.K X.mg X.base ca x ps k g) (hr : Room k X.A) (hgu : X.A.guards = some []) (tk : Takes X W) (hg : Gl X x) (ha : SA X W ca (e :: es) f)
    (hn : ps.length = n := by rfl) (hdb : (x == ("__debug__" : Str)) = false := by decide) (he : starEach (e :: es) X.env = (false, eval e X.env) :: starEach es X.env := by rfl) (hpl : (backTo pos (starEach es X.env)).any (·.1) = false := by rfl) :
    SE X W ca (.Call (.Name x p) (e :: es) [] pos) (fCall n g f) := by
  subst hn
  exact se_call d hr hgu tk hg ha hdb he hpl
theorem se_gc {x : Str} {d : D} (hg : Gl X x) (h : GlobC X.K X.mg x d) (hdb : (x == ("__debug__" : Str)) = false := by decide) : SE X W ca (.Name x pos) (fC d) :=
  let ⟨_, _, h1, h2, h3⟩ := h; se_glob hg h1 h2 h3 hdb
theorem se_app1 {o : Expr} {fo f : FE} {apos : Pos} (ho : SE X W ca o fo) (he : SE X W ca e f)
    (hbase : attributeBase o "append" X.env (eval o X.env) = eval o X.env := by rfl)
    (hfew : ((backTo pos (starEach [e] X.env)).all (fun x => !x.1) && (backToKw pos (keywordEach [] X.env)).all (fun x => x.1.isSome) && decide ([e].length + ([] : List Keyword).length + (if ([] : List Keyword).isEmpty then 0 else 1) < 30)) = true := by rfl)
    (hline : (apos.endLine == pos.line) = true := by rfl) (hs : starEach [e] X.env = (false, eval e X.env) :: starEach [] X.env := by rfl) (hplain : (backTo pos (starEach [] X.env)).any (·.1) = false := by rfl) :
    SE X W ca (.Call (.Attribute o "append" apos) [e] [] pos) (fApp fo f) :=
  se_app ho he (pe_bm PySem.F.plainAttrs_list PySem.F.slot_list_append PySem.F.type_list_append mt_append ho.pe (pa_cons he.pe pa_nil hs) hbase hfew hline hs hplain)
/-- x = [.. for ..] -/
theorem ss_setLc {i : Nat} {y : Str} {py : Pos} {spos : Pos} {elt tg iter : Expr} {ifs : List Expr} {scope : Scope} {own : List (Str × Nat)} {fi : FI} {g : FG} {c : FT} {el : FE} (hc : X.calm = true) (hN : X.N.Nodup) (hy : X.N[i]? = some y) (hyl : X.env.scope.names.lookup y = some .local)
    (hi : SI X W ca tg iter fi) (ok : BlkOk X.N X.env.scope scope own)
    (hg : ∀ (s : Shared) (H : Hp) (C : Addr) (cl : List (Str × Addr)) (fp : List Addr), SGw (X.blk s H scope (compEnvC scope cl C X.env) fp) ca (own.map (·.2)) tg g)
    (ht : ∀ (s : Shared) (H : Hp) (C : Addr) (cl : List (Str × Addr)) (fp : List Addr), STs (X.blk s H scope (compEnvC scope cl C X.env) fp) W0 ca ifs c)
    (he : ∀ (s : Shared) (H : Hp) (C : Addr) (cl : List (Str × Addr)) (fp : List Addr), SE (X.blk s H scope (compEnvC scope cl C X.env) fp) W0 ca elt el)
    (hsw : swapsWith (.ListComp elt [⟨tg, iter, ifs, 0⟩] scope pos) (some (.Name y py)) spos.line X.env = pure true := by rfl) (hs : ∀ x, foldedSetIterable iter X.env x = pure x := by intro _; rfl) :
    SS X W ca (.Assign [.Name y py] (.ListComp elt [⟨tg, iter, ifs, 0⟩] scope pos) spos) (fAsg (fLc (own.map (·.2)) fi g c el) (fgName i)) := by
  refine ss_of (ps_setLc (wi := tI X.K W ca fi) (g := tGw X.K ca (own.map (·.2)) g) (tt := tT X.K W0 ca c) (te := tE X.K W0 ca el) hc hN hy hyl hsw hi.pi ok (fun s H C cl fp => (hg s H C cl fp).pg) (fun s H C cl fp => (ht s H C cl fp).pts) (fun s H C cl fp => (he s H C cl fp).pe) hs) fun D σ H ⟨A, Z, S, ρ, ok, sl, p⟩ => ?_
  refine se_lc.lc_read ⟨A, Z, S, ρ, ok, sl, (Post.split p).imp fun B T I d gr q v rv => ?_⟩
  exact q B I (.refl gr.ok) _ ((sl.grow gr).set rv i)
end
section
variable {K : PySem.W.Frag} {mg : Str → Option Value}
theorem globI {x : Str} {i : Int} {t : Tok} {h : Heap} (X : K.In h) (G : h.Ns mainGlobals mg) (q : PySem.W.nsIn K mainGlobals x = some (some (.int i t))) : GlobC K mg x (.int i) :=
  ⟨_, .int i, PySem.W.mg_of X G q, ⟨t, rfl⟩, fun _ _ => .int i⟩
theorem vals_strs : ∀ (ts : List (Str × Tok)), Vals ((ts.map (·.1)).map V.str) (ts.map fun p => Value.str p.1 p.2)
  | [] => .nil
  | p :: r => .cons ⟨p.2, rfl⟩ (vals_strs r)
theorem globL {x : Str} {o : Addr} {n : Nat} {h : Heap} (ts : List (Str × Tok)) (X : K.In h) (G : h.Ns mainGlobals mg) (q : PySem.W.nsIn K mainGlobals x = some (some (.ref o)))
    (l : K.lookup o = some ⟨.type "list", none, .seq (ts.map fun p => Value.str p.1 p.2).toArray n, #[]⟩) (few : ts.length ≤ 1000 := by exact Nat.le_of_ble_eq_true rfl) : GlobC K mg x (.kls (ts.map fun p => .str p.1)) := by
  have r := vals_strs ts
  have e : (ts.map fun p => D.str p.1) = (ts.map (·.1)).map D.str := by rw [List.map_map]; rfl
  refine ⟨_, .ref o, PySem.W.mg_of X G q, rfl, fun A G => ?_⟩
  rw [e]
  refine .kls (.inr ⟨_, _, n, l, rfl, rfl, rfl, ?_, ?_⟩) (dr_strs r)
  · rw [List.size_toArray, List.length_map]
    exact Nat.le_of_lt (small1000 few)
  · simpa using r
theorem std_mk {x : Str} {st : Stmt} {f : Addr} {oc : Value} {od an : Option Addr} {osl : Array (Option Value)} {kV doc pm cdv ct : Value} {h : Heap} {ps : List Str} (X : K.In h) (G : h.Ns mainGlobals mg) (a : PySem.W.nsIn K mainGlobals x = some (some (.ref f)))
    (l : K.lookup f = some ⟨oc, od, .func (PySem.W.fnOf x x (defArgs st) (defBody st) (defScope st) .none kV doc pm an cdv ct), osl⟩) (c : PySem.W.codeIn K cdv x = true) (k : PySem.W.keepIn K (.ref f) = true)
    (b : ∀ (kV doc pm : Value) (an : Option Addr) (cdv ct : Value) (us : List Value), us.length = ps.length → bindArgs (PySem.W.fnOf x x (defArgs st) (defBody st) (defScope st) .none kV doc pm an cdv ct) ⟨us, []⟩ = pure (ps.zip us)) : Std K mg x st ps :=
  ⟨_, _, PySem.W.mg_of X G a, fun_mk (st := st) l c k, (fun_mk (st := st) l c k).binds b⟩
theorem globF {x : Str} {id : String} {h : Heap} (X : K.In h) (G : h.Ns mainGlobals mg) (q : PySem.W.nsIn K mainGlobals x = some (some (.builtin id))) : mg x = some (.builtin id) := PySem.W.mg_of X G q
end
end DL

set_option maxHeartbeats 2000000
/-! For the plain laws: what the data functions come to. -/
namespace DL
open PySem PySem.Spec PyProof.Rows L2
theorem tidy_ok {d : D} {S : Sto} (hS : S.all coFree = true) (hd : noCel d = true) : tidy S.length (.ok d S) = .ok d S := by
  unfold tidy
  simp only [List.take_length, hS, hd, Bool.and_self, if_true]
theorem bodyT_ok {N : List Str} {n : Nat} {f : FS} {ds : List D} {S : Sto} {d : D} (h : bodyD N n f ds S = .ok d S) (hS : S.all coFree = true) (hd : noCel d = true) : bodyT N n f ds S = .ok d S := by
  unfold bodyT
  rw [h, tidy_ok hS hd]
theorem take_pre {S T : Sto} (h : S.length = T.length) (L : Sto) : (T ++ L).take S.length = T := by rw [h, List.take_left]
/-- the store is written, lists of the def's own stand behind -/
theorem bodyT_to {N : List Str} {n : Nat} {f : FS} {ds : List D} {S T L : Sto} {d : D} (h : bodyD N n f ds S = .ok d (T ++ L)) (hl : S.length = T.length) (hT : T.all coFree = true) (hd : noCel d = true) : bodyT N n f ds S = .ok d T := by
  unfold bodyT tidy
  rw [h]
  simp only [take_pre hl, hT, hd, Bool.and_self, if_true]
mutual
/-- plain data, at most n deep -/
def fit : D → Nat → Bool
  | .non, _ => true
  | .bl _, _ => true
  | .int _, _ => true
  | .str x, _ => PyData.strOk x
  | .lst _, 0 => false
  | .lst xs, n + 1 => fits xs n
  | .tup _, 0 => false
  | .tup xs, n + 1 => fits xs n
  | _, _ => false
def fits : List D → Nat → Bool
  | [], _ => true
  | d :: ds, n => fit d n && fits ds n
end
theorem fits_all : ∀ {ds : List D} {n : Nat}, fits ds n = ds.all fun d => fit d n
  | [], _ => rfl
  | d :: ds, n => by simp only [fits, List.all_cons, fits_all]
theorem fits_mem {ds : List D} {n : Nat} (h : fits ds n = true) {d : D} (m : d ∈ ds) : fit d n = true := by
  rw [fits_all, List.all_eq_true] at h
  exact h d m
mutual
theorem fit_up : ∀ {d : D} {n m : Nat}, n ≤ m → fit d n = true → fit d m = true
  | .non, _, _, _, _ => by simp [fit]
  | .bl _, _, _, _, _ => by simp [fit]
  | .int _, _, _, _, _ => by simp [fit]
  | .str _, _, _, _, h => by simpa [fit] using h
  | .lst xs, n, m, h, f => by
    cases n with
    | zero => simp [fit] at f
    | succ n =>
      cases m with
      | zero => omega
      | succ m =>
        simp only [fit] at f ⊢
        exact fits_up (by omega) f
  | .tup xs, n, m, h, f => by
    cases n with
    | zero => simp [fit] at f
    | succ n =>
      cases m with
      | zero => omega
      | succ m =>
        simp only [fit] at f ⊢
        exact fits_up (by omega) f
  | .kls _, n, _, _, h => by cases n <;> simp [fit] at h
  | .dct _, n, _, _, h => by cases n <;> simp [fit] at h
  | .cel _, n, _, _, h => by cases n <;> simp [fit] at h
  | .fn _, n, _, _, h => by cases n <;> simp [fit] at h
theorem fits_up : ∀ {ds : List D} {n m : Nat}, n ≤ m → fits ds n = true → fits ds m = true
  | [], _, _, _, _ => rfl
  | d :: ds, n, m, h, f => by
    simp only [fits, Bool.and_eq_true] at f ⊢
    exact ⟨fit_up h f.1, fits_up h f.2⟩
end
mutual
theorem fit_nc : ∀ {d : D} {n : Nat}, fit d n = true → noCel d = true
  | .non, _, _ => rfl
  | .bl _, _, _ => rfl
  | .int _, _, _ => rfl
  | .str _, _, _ => rfl
  | .lst xs, n, h => by
    cases n with
    | zero => simp [fit] at h
    | succ n => simp only [fit] at h; simp only [noCel]; exact fits_nc h
  | .tup xs, n, h => by
    cases n with
    | zero => simp [fit] at h
    | succ n => simp only [fit] at h; simp only [noCel]; exact fits_nc h
  | .kls _, n, h => by cases n <;> simp [fit] at h
  | .dct _, n, h => by cases n <;> simp [fit] at h
  | .cel _, n, h => by cases n <;> simp [fit] at h
  | .fn _, n, h => by cases n <;> simp [fit] at h
theorem fits_nc : ∀ {ds : List D} {n : Nat}, fits ds n = true → noCels ds = true
  | [], _, _ => rfl
  | d :: ds, n, h => by
    simp only [fits, Bool.and_eq_true] at h
    simp only [noCels, Bool.and_eq_true]
    exact ⟨fit_nc h.1, fits_nc h.2⟩
end
mutual
theorem fit_to {S : Sto} : ∀ {d : D} {n : Nat}, fit d n = true → ∃ p, toP S d = some p ∧ p.canLay0 = true ∧ p.depth ≤ n
  | .non, _, _ => ⟨_, rfl, rfl, by simp [PyData.depth]⟩
  | .bl _, _, _ => ⟨_, rfl, rfl, by simp [PyData.depth]⟩
  | .int _, _, _ => ⟨_, rfl, rfl, by simp [PyData.depth]⟩
  | .str _, n, h => ⟨_, rfl, by cases n <;> simpa [fit, PyData.canLay0] using h, by simp [PyData.depth]⟩
  | .lst xs, n, h => by
    cases n with
    | zero => simp [fit] at h
    | succ n =>
      simp only [fit] at h
      obtain ⟨ps, h1, h2, h3⟩ := fits_to (S := S) h
      exact ⟨.list ps, by simp [toP, h1], by simpa [PyData.canLay0] using h2, by simp only [PyData.depth]; omega⟩
  | .tup xs, n, h => by
    cases n with
    | zero => simp [fit] at h
    | succ n =>
      simp only [fit] at h
      obtain ⟨ps, h1, h2, h3⟩ := fits_to (S := S) h
      exact ⟨.tuple ps, by simp [toP, h1], by simpa [PyData.canLay0] using h2, by simp only [PyData.depth]; omega⟩
  | .kls _, n, h => by cases n <;> simp [fit] at h
  | .dct _, n, h => by cases n <;> simp [fit] at h
  | .cel _, n, h => by cases n <;> simp [fit] at h
  | .fn _, n, h => by cases n <;> simp [fit] at h
theorem fits_to {S : Sto} : ∀ {ds : List D} {n : Nat}, fits ds n = true → ∃ ps, toPs S ds = some ps ∧ PyData.canLayAll0 ps = true ∧ PyData.depthAll ps ≤ n
  | [], _, _ => ⟨[], rfl, rfl, by simp [PyData.depthAll]⟩
  | d :: ds, n, h => by
    simp only [fits, Bool.and_eq_true] at h
    obtain ⟨p, h1, h2, h3⟩ := fit_to (S := S) h.1
    obtain ⟨ps, k1, k2, k3⟩ := fits_to (S := S) h.2
    exact ⟨p :: ps, by simp [toPs, h1, k1], by simp [PyData.canLayAll0, h2, k2], by simp only [PyData.depthAll]; omega⟩
end
theorem fit_shaped {S : Sto} {d : D} {n : Nat} (h : fit d n = true) (hn : n ≤ 64) : ∃ p, toP S d = some p ∧ SeqAt.shaped p = true := by
  obtain ⟨p, h1, h2, h3⟩ := fit_to (S := S) h
  refine ⟨p, h1, ?_⟩
  unfold SeqAt.shaped
  rw [h2, Bool.true_and, decide_eq_true_eq]
  omega
/-- xs == [] -/
theorem eqB_nil {S : Sto} {xs : List D} {n : Nat} (h : fits xs n = true) (hn : n ≤ 63) : eqB S (.lst xs) (.lst []) = some xs.isEmpty := by
  have h' : fit (.lst xs) (n + 1) = true := by simpa [fit] using h
  obtain ⟨p, h1, h2⟩ := fit_shaped (S := S) h' (by omega)
  obtain ⟨ps, k1, _⟩ := fits_to (S := S) h
  have e : p = .list ps := by
    simp only [toP, k1, Option.map_some, Option.some.injEq] at h1
    exact h1.symm
  subst e
  unfold eqB
  simp only [h1, h2]
  have sn : toP S (.lst []) = some (.list []) := rfl
  rw [sn]
  simp only [show SeqAt.shaped (.list []) = true by decide, Bool.and_self, if_true, Option.some.injEq]
  cases xs with
  | nil =>
    simp only [toPs, Option.some.injEq] at k1
    subst k1
    rfl
  | cons x xs =>
    simp only [toPs] at k1
    split at k1
    · cases k1
      rw [h2]
      rfl
    · cases k1
theorem compD_pure {g : FG} {c : FT} {el : FE} {ρ : Env} {S : Sto} (p : D → Bool) (f : D → D) : ∀ {ds : List D}, (∀ d ∈ ds, ∃ ρ1, g d ρ S = .ok ρ1 S ∧ c ρ1 S = .ok (p d) S ∧ (p d = true → el ρ1 S = .ok (f d) S)) →
    compD g c el ds ρ S = .ok ((ds.filter p).map f) S
  | [], _ => rfl
  | d :: ds, h => by
    obtain ⟨ρ1, h1, h2, h3⟩ := h d List.mem_cons_self
    have ih := compD_pure p f (ds := ds) fun x m => h x (List.mem_cons_of_mem _ m)
    unfold compD
    rw [h1, Res.bind_ok, h2, Res.bind_ok]
    cases e : p d with
    | true => rw [if_pos rfl, h3 e, Res.bind_ok, ih, Res.bind_ok, List.filter_cons_of_pos e, List.map_cons]
    | false => rw [if_neg (by simp), ih, List.filter_cons_of_neg (by simp [e])]
theorem fLc_pure {vs : List Nat} {fi : FI} {g : FG} {c : FT} {el : FE} {ρ : Env} {S : Sto} {xs : List D} (p : D → Bool) (f : D → D) (hi : fi ρ S = .ok ⟨xs, none⟩ S) (hl : xs.length < capN)
    (h : ∀ d ∈ xs, ∃ ρ1, g d (wipeE ρ vs) S = .ok ρ1 S ∧ c ρ1 S = .ok (p d) S ∧ (p d = true → el ρ1 S = .ok (f d) S)) : fLc vs fi g c el ρ S = .ok (.lst ((xs.filter p).map f)) S := by
  unfold fLc
  rw [hi]
  simp only [Res.bind_ok, hl, if_true, withLock_none]
  rw [compD_pure p f h]
  rfl
/-- .. over a list that may change -/
theorem fLc_cell {vs : List Nat} {fi : FI} {g : FG} {c : FT} {el : FE} {ρ : Env} {S : Sto} {xs : List D} {j : Nat} (p : D → Bool) (f : D → D) (hi : fi ρ S = .ok ⟨xs, some j⟩ S) (hl : xs.length < capN) (hj : S[j]? = some (.lst xs))
    (h : ∀ d ∈ xs, ∃ ρ1, g d (wipeE ρ vs) (S.set j (.lk xs)) = .ok ρ1 (S.set j (.lk xs)) ∧ c ρ1 (S.set j (.lk xs)) = .ok (p d) (S.set j (.lk xs)) ∧ (p d = true → el ρ1 (S.set j (.lk xs)) = .ok (f d) (S.set j (.lk xs)))) :
    fLc vs fi g c el ρ S = .ok (.lst ((xs.filter p).map f)) S := by
  unfold fLc
  rw [hi]
  simp only [Res.bind_ok, hl, if_true]
  unfold withLock
  simp only [hj]
  rw [compD_pure p f h]
  simp only [noErr_ok, Res.bind_ok, List.set_set]
  have hlt := (List.getElem?_eq_some_iff.mp hj)
  obtain ⟨h1, h2⟩ := hlt
  rw [← h2, List.set_getElem_self]
theorem fits_filter {xs : List D} {n : Nat} (p : D → Bool) (h : fits xs n = true) : fits (xs.filter p) n = true := by
  rw [fits_all, List.all_eq_true] at h ⊢
  exact fun x m => h x (List.mem_filter.mp m).1
theorem isEmpty_filter {α : Type} (p : α → Bool) : ∀ xs : List α, (xs.filter p).isEmpty = xs.all fun x => !p x
  | [] => rfl
  | x :: xs => by
    cases e : p x with
    | true => simp [e]
    | false => rw [List.filter_cons_of_neg (by simp [e]), isEmpty_filter p xs]; simp [e]
@[simp] theorem atI_0 {α : Type} {x : α} {r : List α} : atI (x :: r) 0 = some x := by
  unfold atI ixN
  have : (0 : Int) < ((x :: r).length : Nat) := by simp only [List.length_cons]; omega
  rw [if_pos (Int.le_refl 0), if_pos this]
  rfl
@[simp] theorem atI_1 {α : Type} {x y : α} {r : List α} : atI (x :: y :: r) 1 = some y := by
  unfold atI ixN
  have : (1 : Int) < ((x :: y :: r).length : Nat) := by simp only [List.length_cons]; omega
  rw [if_pos (by decide), if_pos this]
  rfl
theorem atI_at {α : Type} {xs : List α} {j : Nat} {x : α} (h : xs[j]? = some x) : atI xs (j : Int) = some x := by
  have hl := (List.getElem?_eq_some_iff.mp h).1
  unfold atI ixN
  have : ((j : Nat) : Int) < (xs.length : Nat) := by omega
  rw [if_pos (by omega), if_pos this]
  simpa using h
/-- what the data functions say of list data -/
@[simp] theorem lenD_lst {S : Sto} {xs : List D} : lenD [.lst xs] S = some (.int xs.length) := rfl
@[simp] theorem lenD_tup {S : Sto} {xs : List D} : lenD [.tup xs] S = some (.int xs.length) := rfl
@[simp] theorem ixD_tup {S : Sto} {xs : List D} {i : Int} : ixD (.tup xs) (.int i) S = atI xs i := rfl
@[simp] theorem ixD_lst {S : Sto} {xs : List D} {i : Int} : ixD (.lst xs) (.int i) S = atI xs i := rfl
@[simp] theorem eqD_int {S : Sto} {i j : Int} : eqD (.int i) (.int j) S = some (.bl (decide (i = j))) := rfl
@[simp] theorem eqD_str {S : Sto} {a b : Str} : eqD (.str a) (.str b) S = some (.bl (decide (a = b))) := rfl
@[simp] theorem neD_int {S : Sto} {i j : Int} : neD (.int i) (.int j) S = some (.bl (!decide (i = j))) := rfl
@[simp] theorem neD_str {S : Sto} {a b : Str} : neD (.str a) (.str b) S = some (.bl (!decide (a = b))) := rfl
@[simp] theorem leD_int {S : Sto} {i j : Int} : leD (.int i) (.int j) S = some (.bl (decide (i ≤ j))) := rfl
@[simp] theorem ltD_int {S : Sto} {i j : Int} : ltD (.int i) (.int j) S = some (.bl (decide (i < j))) := rfl
@[simp] theorem gtD_int {S : Sto} {i j : Int} : gtD (.int i) (.int j) S = some (.bl (decide (i > j))) := rfl
@[simp] theorem geD_int {S : Sto} {i j : Int} : geD (.int i) (.int j) S = some (.bl (decide (i ≥ j))) := rfl
@[simp] theorem addD_int {S : Sto} {i j : Int} : addD (.int i) (.int j) S = some (.int (i + j)) := rfl
@[simp] theorem subD_int {S : Sto} {i j : Int} : subD (.int i) (.int j) S = some (.int (i - j)) := rfl
theorem eqD_nil {S : Sto} {xs : List D} {n : Nat} (h : fits xs n = true) (hn : n ≤ 63) : eqD (.lst xs) (.lst []) S = some (.bl xs.isEmpty) := by
  unfold eqD
  rw [eqB_nil h hn]
  rfl
theorem neD_nil {S : Sto} {xs : List D} {n : Nat} (h : fits xs n = true) (hn : n ≤ 63) : neD (.lst xs) (.lst []) S = some (.bl (!xs.isEmpty)) := by
  unfold neD
  rw [eqB_nil h hn]
  rfl
theorem smallI_nat {n : Nat} (h : n ≤ 1000000000) : smallI (n : Int) = true := by
  unfold smallI
  exact ltN_of (by omega)
theorem capN_of {n : Nat} (h : n ≤ 1000000) : n < capN := Nat.lt_of_le_of_lt h (by decide +kernel)
theorem smallI_one : smallI 1 = true := smallI_nat (n := 1) (by decide)
theorem fiRng2_ok {f : FA} {ρ : Env} {S S1 : Sto} {i j : Int} (h : f ρ S = .ok [.int i, .int j] S1) (hi : smallI i = true) (hj : smallI j = true) : fiRng2 f ρ S = .ok ⟨rangeD i (j - i).toNat, none⟩ S1 := by
  unfold fiRng2
  rw [h]
  show (if (smallI i && smallI j) = true then _ else _) = _
  rw [hi, hj]
  rfl
theorem fiRng1_ok {f : FA} {ρ : Env} {S S1 : Sto} {j : Int} (h : f ρ S = .ok [.int j] S1) (hj : smallI j = true) : fiRng1 f ρ S = .ok ⟨rangeD 0 j.toNat, none⟩ S1 := by
  unfold fiRng1
  rw [h]
  show (if smallI j = true then _ else _) = _
  rw [hj]
  rfl
theorem mulOk_l {i j : Int} (h : i.natAbs < 18446744073709551616) : mulOk i j = true := by
  unfold mulOk
  rw [ltN_of h, Bool.true_or, Bool.true_or]
theorem mulOk_r {i j : Int} (h : j.natAbs < 18446744073709551616) : mulOk i j = true := by
  unfold mulOk
  rw [ltN_of h, Bool.or_true, Bool.true_or]
theorem fdivOk_of {j : Int} (h0 : 0 < j) (h : j.natAbs < 1073741824) : fdivOk j = true := by
  unfold fdivOk
  rw [ltN_of h, decide_eq_true h0]
  rfl
theorem mulD_int {S : Sto} {i j : Int} (h : mulOk i j = true) : mulD (.int i) (.int j) S = some (.int (i * j)) := by
  show (if mulOk i j = true then _ else _) = _
  rw [if_pos h]
theorem fdivD_int {S : Sto} {i j : Int} (h : fdivOk j = true) : fdivD (.int i) (.int j) S = some (.int (i / j)) := by
  show (if fdivOk j = true then _ else _) = _
  rw [if_pos h]
theorem modD_int {S : Sto} {i j : Int} (h : 0 < j) : modD (.int i) (.int j) S = some (.int (i % j)) := by
  show (if decide (0 < j) = true then _ else _) = _
  rw [if_pos (decide_eq_true h)]
@[simp] theorem intD_int {S : Sto} {i : Int} : intD [.int i] S = some (.int i) := rfl
/-! the generator of a law's draws: the first list of the store -/
theorem gx0 {L : Sto} {x y z : D} : ixD (.cel 0) (.int 0) (.lst [x, y, z] :: L) = some x := rfl
theorem gx1 {L : Sto} {x y z : D} : ixD (.cel 0) (.int 1) (.lst [x, y, z] :: L) = some y := rfl
theorem gx2 {L : Sto} {x y z : D} : ixD (.cel 0) (.int 2) (.lst [x, y, z] :: L) = some z := rfl
theorem gs0 {L : Sto} {x y z d : D} : setD (.cel 0) (.int 0) d (.lst [x, y, z] :: L) = some (.lst [d, y, z] :: L) := rfl
theorem gs2 {L : Sto} {x y z d : D} : setD (.cel 0) (.int 2) d (.lst [x, y, z] :: L) = some (.lst [x, y, d] :: L) := rfl
def gen (a b c : Int) : CO := .lst [.int a, .int b, .int c]
/-- a generator that was asked at most n times -/
def Gn (n : Nat) (x : CO) : Prop := ∃ a b c : Int, x = gen a b c ∧ 0 ≤ a ∧ 0 ≤ b ∧ b < 2147483647 ∧ 0 ≤ c ∧ c ≤ n
theorem Gn.up {n m : Nat} {x : CO} (h : Gn n x) (l : n ≤ m) : Gn m x := let ⟨a, b, c, e, h1, h2, h3, h4, h5⟩ := h; ⟨a, b, c, e, h1, h2, h3, h4, by omega⟩
theorem Gn.free {n : Nat} {x : CO} (h : Gn n x) : coFree x = true := by
  obtain ⟨a, b, c, rfl, _⟩ := h
  rfl
theorem Gn.all {n : Nat} {x : CO} {L : Sto} (h : Gn n x) (hL : L.all coFree = true) : List.all (x :: L) coFree = true := by rw [List.all_cons, h.free, hL]; rfl
theorem powD_int {S : Sto} {i j : Int} (h : powOk i j = true) : powD (.int i) (.int j) S = some (.int (i ^ j.toNat)) := by
  show (if powOk i j = true then _ else _) = _
  rw [if_pos h]
theorem fiRng1_nat {f : FA} {ρ : Env} {S S1 : Sto} {j : Nat} (h : f ρ S = .ok [.int j] S1) (hj : j ≤ 1000000000) : fiRng1 f ρ S = .ok ⟨rangeD 0 j, none⟩ S1 := by
  have q := fiRng1_ok h (smallI_nat hj)
  rw [Int.toNat_natCast] at q
  exact q
theorem fLc_st {vs : List Nat} {fi : FI} {g : FG} {c : FT} {el : FE} {ρ : Env} {S S1 S2 : Sto} {xs ys : List D} (hi : fi ρ S = .ok ⟨xs, none⟩ S1) (hl : xs.length < capN) (h : compD g c el xs (wipeE ρ vs) S1 = .ok ys S2) : fLc vs fi g c el ρ S = .ok (.lst ys) S2 := by
  unfold fLc
  rw [hi]
  simp only [Res.bind_ok, hl, if_true, withLock_none]
  rw [h]
  rfl
theorem fFor_st {fi : FI} {g : FG} {f : FS} {ρ : Env} {S S1 : Sto} {xs : List D} {r : Res (Fl × Env)} (hi : fi ρ S = .ok ⟨xs, none⟩ S1) (h : loopD g f xs ρ S1 = r) : fFor fi g f ρ S = r := by
  unfold fFor
  rw [hi]
  exact h
theorem fSeq_nx {f g : FS} {ρ ρ1 : Env} {S S1 : Sto} (h : f ρ S = .ok (.nx, ρ1) S1) : fSeq f g ρ S = g ρ1 S1 := by
  unfold fSeq
  rw [h]
  rfl
theorem fSeq_rt {f g : FS} {ρ ρ1 : Env} {S S1 : Sto} {d : D} (h : f ρ S = .ok (.rt d, ρ1) S1) : fSeq f g ρ S = .ok (.rt d, ρ1) S1 := by
  unfold fSeq
  rw [h]
  rfl
theorem bodyD_rt {N : List Str} {n : Nat} {f : FS} {ds : List D} {S S1 : Sto} {ρ1 : Env} {d : D} (h : f (ds.map some ++ List.replicate (N.length - n) none) S = .ok (.rt d, ρ1) S1) : bodyD N n f ds S = .ok d S1 := by
  unfold bodyD
  rw [h]
  rfl
end DL

namespace DL
open PySem PySem.Spec PyProof.Rows L2
theorem fC_ap {d : D} {ρ : Env} {S : Sto} : fC d ρ S = (.ok d S) := rfl
theorem fVar_ap {i : Nat} {ρ : Env} {S : Sto} : fVar i ρ S = (match ρ[i]? with
  | some (some d) => .ok d S
  | _ => .bad) := rfl
theorem fOp_ap {r : Op2} {fa fb : FE} {ρ : Env} {S : Sto} : fOp r fa fb ρ S = ((fa ρ S).bind fun x S1 => (fb ρ S1).bind fun y S2 => okO (r x y S2) S2) := rfl
theorem fB_ap {f : FE} {ρ : Env} {S : Sto} : fB f ρ S = (asB (f ρ S)) := rfl
theorem fAnd_ap {f g : FT} {ρ : Env} {S : Sto} : fAnd f g ρ S = ((f ρ S).bind fun c S1 => if c = true then g ρ S1 else .ok false S1) := rfl
theorem fOr_ap {f g : FT} {ρ : Env} {S : Sto} : fOr f g ρ S = ((f ρ S).bind fun c S1 => if c = true then .ok true S1 else g ρ S1) := rfl
theorem fNot_ap {f : FT} {ρ : Env} {S : Sto} : fNot f ρ S = ((f ρ S).bind fun c S1 => .ok (!c) S1) := rfl
theorem fAndV_ap {f g : FE} {ρ : Env} {S : Sto} : fAndV f g ρ S = ((asB (f ρ S)).bind fun c S1 => if c = true then g ρ S1 else .ok (.bl false) S1) := rfl
theorem fOrV_ap {f g : FE} {ρ : Env} {S : Sto} : fOrV f g ρ S = ((asB (f ρ S)).bind fun c S1 => if c = true then .ok (.bl true) S1 else g ρ S1) := rfl
theorem fNotV_ap {f : FE} {ρ : Env} {S : Sto} : fNotV f ρ S = ((asB (f ρ S)).bind fun c S1 => .ok (.bl (!c)) S1) := rfl
theorem fIf_ap {t : FT} {f g : FE} {ρ : Env} {S : Sto} : fIf t f g ρ S = ((t ρ S).bind fun c S1 => if c = true then f ρ S1 else g ρ S1) := rfl
theorem fNil_ap {ρ : Env} {S : Sto} : fNil  ρ S = (.ok [] S) := rfl
theorem fCons_ap {f : FE} {g : FA} {ρ : Env} {S : Sto} : fCons f g ρ S = ((f ρ S).bind fun d S1 => (g ρ S1).bind fun ds S2 => .ok (d :: ds) S2) := rfl
theorem fTup_ap {f : FA} {ρ : Env} {S : Sto} : fTup f ρ S = ((f ρ S).bind fun ds S1 => if ds.length ≤ capN then .ok (.tup ds) S1 else .bad) := rfl
theorem fLst_ap {f : FA} {ρ : Env} {S : Sto} : fLst f ρ S = ((f ρ S).bind fun ds S1 => if ds.length ≤ capN then .ok (.lst ds) S1 else .bad) := rfl
theorem fLstC_ap {f : FA} {ρ : Env} {S : Sto} : fLstC f ρ S = ((f ρ S).bind fun ds S1 => if ds.length ≤ capN then .ok (.cel S1.length) (S1 ++ [.lst ds]) else .bad) := rfl
theorem fNoPart_ap {ρ : Env} {S : Sto} : fNoPart  ρ S = (.ok none S) := rfl
theorem fPart_ap {f : FE} {ρ : Env} {S : Sto} : fPart f ρ S = ((f ρ S).bind fun d S1 => match d with
  | .int i => .ok (some i) S1
  | _ => .bad) := rfl
theorem fSl_ap {f : FE} {lo hi : FO} {ρ : Env} {S : Sto} : fSl f lo hi ρ S = ((f ρ S).bind fun d S1 => (lo ρ S1).bind fun l S2 => (hi ρ S2).bind fun h S3 => okO (slD d l h S3) S3) := rfl
theorem fNeg_ap {f : FE} {ρ : Env} {S : Sto} : fNeg f ρ S = ((f ρ S).bind fun d S1 => match d with
  | .int i => .ok (.int (-i)) S1
  | _ => .bad) := rfl
theorem fCB_ap {g : OpN} {f : FA} {ρ : Env} {S : Sto} : fCB g f ρ S = ((f ρ S).bind fun ds S1 => okO (g ds S1) S1) := rfl
theorem fIsi_ap {T : String} {f : FE} {ρ : Env} {S : Sto} : fIsi T f ρ S = ((f ρ S).bind fun d S1 => match tyD S1 d with
  | some t => .ok (.bl (isiB t T)) S1
  | none => .bad) := rfl
theorem fIsi2_ap {T U : String} {f : FE} {ρ : Env} {S : Sto} : fIsi2 T U f ρ S = ((f ρ S).bind fun d S1 => match tyD S1 d with
  | some t => .ok (.bl (isiB t T || isiB t U)) S1
  | none => .bad) := rfl
theorem fNext_ap {ρ : Env} {S : Sto} : fNext  ρ S = (.ok (.nx, ρ) S) := rfl
theorem fSeq_ap {f g : FS} {ρ : Env} {S : Sto} : fSeq f g ρ S = ((f ρ S).bind fun r S1 => match r.1 with
  | .nx => g r.2 S1
  | _ => .ok r S1) := rfl
theorem fRet_ap {f : FE} {ρ : Env} {S : Sto} : fRet f ρ S = ((f ρ S).bind fun d S1 => .ok (.rt d, ρ) S1) := rfl
theorem fRetF_ap {f : FE} {ρ : Env} {S : Sto} : fRetF f ρ S = ((f ρ S).bind fun d S1 => match frzD S1 d with
  | some (d', S2) => .ok (.rt d', ρ) S2
  | none => .bad) := rfl
theorem fgName_ap {i : Nat} {d : D} {ρ : Env} {S : Sto} : fgName i d ρ S = (.ok (ρ.set i (some d)) S) := rfl
theorem fgNil_ap {ds : List D} {ρ : Env} {S : Sto} : fgNil  ds ρ S = (match ds with
  | [] => .ok ρ S
  | _ => .bad) := rfl
theorem fgCons_ap {f : FG} {g : FGs} {ds : List D} {ρ : Env} {S : Sto} : fgCons f g ds ρ S = (match ds with
  | d :: r => (f d ρ S).bind fun ρ1 S1 => g r ρ1 S1
  | _ => .bad) := rfl
theorem fgTup_ap {n : Nat} {f : FGs} {d : D} {ρ : Env} {S : Sto} : fgTup n f d ρ S = (match d with
  | .tup xs => if xs.length = n then f xs ρ S else .bad
  | _ => .bad) := rfl
theorem fgSub_ap {fo fi : FE} {d : D} {ρ : Env} {S : Sto} : fgSub fo fi d ρ S = ((fo ρ S).bind fun o S1 => (fi ρ S1).bind fun i S2 => match setD o i d S2 with
  | some S3 => .ok ρ S3
  | none => .bad) := rfl
theorem fAsg_ap {f : FE} {g : FG} {ρ : Env} {S : Sto} : fAsg f g ρ S = ((f ρ S).bind fun d S1 => (g d ρ S1).bind fun ρ1 S2 => .ok (.nx, ρ1) S2) := rfl
theorem fPar_ap {i j : Nat} {f : FA} {ρ : Env} {S : Sto} : fPar i j f ρ S = ((f ρ S).bind fun ds S1 => match ds with
  | [x, y] => .ok (.nx, (ρ.set i (some x)).set j (some y)) S1
  | _ => .bad) := rfl
theorem fPar3_ap {i j k : Nat} {f : FA} {ρ : Env} {S : Sto} : fPar3 i j k f ρ S = ((f ρ S).bind fun ds S1 => match ds with
  | [x, y, z] => .ok (.nx, ((ρ.set i (some x)).set j (some y)).set k (some z)) S1
  | _ => .bad) := rfl
theorem fDrop_ap {f : FE} {ρ : Env} {S : Sto} : fDrop f ρ S = ((f ρ S).bind fun _ S1 => .ok (.nx, ρ) S1) := rfl
theorem fApp_ap {fo f : FE} {ρ : Env} {S : Sto} : fApp fo f ρ S = ((fo ρ S).bind fun o S1 => match lstOf S1 o with
  | some _ => (f ρ S1).bind fun d S2 => match appD o d S2 with
    | some S3 => .ok .non S3
    | none => .bad
  | none => .bad) := rfl
theorem fIfS_ap {t : FT} {f g : FS} {ρ : Env} {S : Sto} : fIfS t f g ρ S = ((t ρ S).bind fun c S1 => if c = true then f ρ S1 else g ρ S1) := rfl
theorem fiSeq_ap {f : FE} {ρ : Env} {S : Sto} : fiSeq f ρ S = ((f ρ S).bind fun d S1 => match iterOf S1 d with
  | some it => .ok it S1
  | none => .bad) := rfl
theorem fiTup_ap {f : FE} {ρ : Env} {S : Sto} : fiTup f ρ S = ((f ρ S).bind fun d S1 => match d with
  | .tup xs => .ok ⟨xs, none⟩ S1
  | _ => .bad) := rfl
theorem fiRng1_ap {f : FA} {ρ : Env} {S : Sto} : fiRng1 f ρ S = ((f ρ S).bind fun ds S1 => match ds with
  | [.int j] => if smallI j then .ok ⟨rangeD 0 j.toNat, none⟩ S1 else .bad
  | _ => .bad) := rfl
theorem fiRng2_ap {f : FA} {ρ : Env} {S : Sto} : fiRng2 f ρ S = ((f ρ S).bind fun ds S1 => match ds with
  | [.int i, .int j] => if smallI i && smallI j then .ok ⟨rangeD i (j - i).toNat, none⟩ S1 else .bad
  | _ => .bad) := rfl
theorem fiEnum_ap {f : FE} {ρ : Env} {S : Sto} : fiEnum f ρ S = ((f ρ S).bind fun d S1 => match iterOf S1 d with
  | some it => if it.cell = none then .ok ⟨enumD it.items, none⟩ S1 else .bad
  | none => .bad) := rfl
theorem fYes_ap {ρ : Env} {S : Sto} : fYes  ρ S = (.ok true S) := rfl
theorem fCall_ap {n : Nat} {g : List D → Sto → Res D} {f : FA} {ρ : Env} {S : Sto} : fCall n g f ρ S = ((f ρ S).bind fun ds S1 => if ds.length = n then g ds S1 else .bad) := rfl
theorem fCall0_ap {g : List D → Sto → Res D} {ρ : Env} {S : Sto} : fCall0 g ρ S = (g [] S) := rfl
theorem fChain_ap {r r' : Op2} {fa fb fc : FE} {ρ : Env} {S : Sto} : fChain r r' fa fb fc ρ S = ((fa ρ S).bind fun x S1 => (fb ρ S1).bind fun y S2 => (asB (okO (r x y S2) S2)).bind fun k S3 => if k = true then (fc ρ S3).bind fun z S4 => okO (r' y z S4) S4 else .ok (.bl false) S3) := rfl
theorem fBits_ap {f : FE} {ρ : Env} {S : Sto} : fBits f ρ S = ((f ρ S).bind fun d S1 => match d with
  | .int i => .ok (.int (Builtin.Int.intBits i : Nat)) S1
  | _ => .bad) := rfl
theorem fAddC_ap {fa fb : FE} {ρ : Env} {S : Sto} : fAddC fa fb ρ S = ((fa ρ S).bind fun x S1 => (fb ρ S1).bind fun y S2 => match addC x y S2 with
  | some xs => .ok (.cel S2.length) (S2 ++ [.lst xs])
  | none => .bad) := rfl
theorem fiAny_ap {f : FE} {ρ : Env} {S : Sto} : fiAny f ρ S = ((f ρ S).bind fun d S1 => match d with
  | .tup xs => .ok ⟨xs, none⟩ S1
  | d => match iterOf S1 d with
    | some it => .ok it S1
    | none => .bad) := rfl
end DL

set_option maxHeartbeats 4000000
namespace K1
open PySem PySem.Spec PyProof.Rows L2 DL
abbrev GF := List D → Sto → Res D
def c_ORDERS : D := (.kls [(.str "on"), (.str "turns"), (.str "winner"), (.str "loser")])
def c_DEEPEST : D := (.int 4)
abbrev N_is_whole : List Str := ["value"]
def b_is_whole : FS :=
    (fRet (fAndV (fIsi "int" (fVar 0)) (fNotV (fIsi "bool" (fVar 0)))))
def g_is_whole : GF := bodyT N_is_whole 1 (b_is_whole)
abbrev N_is_count : List Str := ["value"]
def b_is_count (g_is_whole : GF) : FS :=
    (fRet (fAndV (fCall 1 g_is_whole (fCons (fVar 0) fNil)) (fOp geD (fVar 0) (fC (.int 0)))))
def g_is_count : GF := bodyT N_is_count 1 (b_is_count g_is_whole)
abbrev N_is_between : List Str := ["value", "low", "high"]
def b_is_between (g_is_whole : GF) : FS :=
    (fRet (fAndV (fCall 1 g_is_whole (fCons (fVar 0) fNil)) (fChain leD leD (fVar 1) (fVar 0) (fVar 2))))
def g_is_between : GF := bodyT N_is_between 3 (b_is_between g_is_whole)
abbrev N_is_side : List Str := ["value"]
def b_is_side (g_is_between : GF) : FS :=
    (fRet (fCall 3 g_is_between (fCons (fVar 0) (fCons (fC (.int 0)) (fCons (fC (.int 1)) fNil)))))
def g_is_side : GF := bodyT N_is_side 1 (b_is_side g_is_between)
abbrev N_are_rallies : List Str := ["value", "side"]
def b_are_rallies (g_is_side : GF) : FS :=
    (fRet (fAndV (fIsi "list" (fVar 0)) (fOp eqD (fLc [1] (fiAny (fVar 0)) (fgName 1) (fNot (fB (fCall 1 g_is_side (fCons (fVar 1) fNil)))) (fVar 1)) (fLst fNil))))
def g_are_rallies : GF := bodyT N_are_rallies 1 (b_are_rallies g_is_side)
abbrev N_is_fraction : List Str := ["value"]
def b_is_fraction (g_is_whole : GF) : FS :=
    (fSeq (fIfS (fOr (fNot (fB (fIsi "tuple" (fVar 0)))) (fOr (fB (fOp neD (fCB lenD (fCons (fVar 0) fNil)) (fC (.int 2)))) (fOr (fNot (fB (fCall 1 g_is_whole (fCons (fOp ixD (fVar 0) (fC (.int 0))) fNil)))) (fNot (fB (fCall 1 g_is_whole (fCons (fOp ixD (fVar 0) (fC (.int 1))) fNil))))))) (fRet (fC (.bl false))) fNext)
    (fRet (fAndV (fOp geD (fOp ixD (fVar 0) (fC (.int 1))) (fC (.int 1))) (fOp eqD (fCB gcdD (fCons (fOp ixD (fVar 0) (fC (.int 0))) (fCons (fOp ixD (fVar 0) (fC (.int 1))) fNil))) (fC (.int 1))))))
def g_is_fraction : GF := bodyT N_is_fraction 1 (b_is_fraction g_is_whole)
abbrev N_is_chance : List Str := ["value"]
def b_is_chance (g_is_fraction : GF) : FS :=
    (fRet (fAndV (fCall 1 g_is_fraction (fCons (fVar 0) fNil)) (fChain ltD ltD (fC (.int 0)) (fOp ixD (fVar 0) (fC (.int 0))) (fOp ixD (fVar 0) (fC (.int 1))))))
def g_is_chance : GF := bodyT N_is_chance 1 (b_is_chance g_is_fraction)
abbrev N_is_word : List Str := ["value", "word"]
def b_is_word : FS :=
    (fRet (fAndV (fIsi "tuple" (fVar 0)) (fAndV (fOp eqD (fCB lenD (fCons (fVar 0) fNil)) (fC (.int 1))) (fAndV (fIsi "str" (fOp ixD (fVar 0) (fC (.int 0)))) (fOp eqD (fOp ixD (fVar 0) (fC (.int 0))) (fVar 1))))))
def g_is_word : GF := bodyT N_is_word 2 (b_is_word)
abbrev N_is_order : List Str := ["value", "word", "mark"]
def b_is_order (g_is_word g_is_side : GF) : FS :=
    (fSeq (fIfS (fB (fOp neD (fLc [1] (fiAny (fC c_ORDERS)) (fgName 1) (fB (fCall 2 g_is_word (fCons (fVar 0) (fCons (fVar 1) fNil)))) (fVar 1)) (fLst fNil))) (fRet (fC (.bl true))) fNext)
    (fSeq (fIfS (fOr (fNot (fB (fIsi "tuple" (fVar 0)))) (fOr (fB (fOp neD (fCB lenD (fCons (fVar 0) fNil)) (fC (.int 2)))) (fOr (fNot (fB (fIsi "str" (fOp ixD (fVar 0) (fC (.int 0)))))) (fB (fOp neD (fOp ixD (fVar 0) (fC (.int 0))) (fC (.str "row"))))))) (fRet (fC (.bl false))) fNext)
    (fSeq (fIfS (fOr (fNot (fB (fIsi "list" (fOp ixD (fVar 0) (fC (.int 1)))))) (fNot (fB (fChain leD leD (fC (.int 1)) (fCB lenD (fCons (fOp ixD (fVar 0) (fC (.int 1))) fNil)) (fC (.int 8)))))) (fRet (fC (.bl false))) fNext)
    (fRet (fOp eqD (fLc [2] (fiAny (fOp ixD (fVar 0) (fC (.int 1)))) (fgName 2) (fNot (fB (fCall 1 g_is_side (fCons (fVar 2) fNil)))) (fVar 2)) (fLst fNil))))))
def g_is_order : GF := bodyT N_is_order 1 (b_is_order g_is_word g_is_side)
abbrev N_are_numbers_of_race : List Str := ["need", "lead", "cap"]
def b_are_numbers_of_race (g_is_between : GF) : FS :=
    (fSeq (fIfS (fOr (fNot (fB (fCall 3 g_is_between (fCons (fVar 0) (fCons (fC (.int 1)) (fCons (fC (.int 30)) fNil)))))) (fNot (fB (fCall 3 g_is_between (fCons (fVar 1) (fCons (fC (.int 1)) (fCons (fC (.int 3)) fNil))))))) (fRet (fC (.bl false))) fNext)
    (fRet (fOrV (fOp isD (fVar 2) (fC .non)) (fCall 3 g_is_between (fCons (fVar 2) (fCons (fVar 0) (fCons (fC (.int 40)) fNil)))))))
def g_are_numbers_of_race : GF := bodyT N_are_numbers_of_race 3 (b_are_numbers_of_race g_is_between)
abbrev N_is_score : List Str := ["value"]
def b_is_score (g_is_count : GF) : FS :=
    (fRet (fAndV (fIsi "tuple" (fVar 0)) (fAndV (fOp eqD (fCB lenD (fCons (fVar 0) fNil)) (fC (.int 2))) (fAndV (fCall 1 g_is_count (fCons (fOp ixD (fVar 0) (fC (.int 0))) fNil)) (fCall 1 g_is_count (fCons (fOp ixD (fVar 0) (fC (.int 1))) fNil))))))
def g_is_score : GF := bodyT N_is_score 1 (b_is_score g_is_count)
abbrev N_is_special : List Str := ["value", "deep"]
def b_is_special (g_is_score g_is_rule_within : GF) : FS :=
    (fSeq (fIfS (fOr (fNot (fB (fIsi "tuple" (fVar 0)))) (fOr (fB (fOp neD (fCB lenD (fCons (fVar 0) fNil)) (fC (.int 2)))) (fOr (fNot (fB (fCall 1 g_is_score (fCons (fOp ixD (fVar 0) (fC (.int 0))) fNil)))) (fB (fOp gtD (fCB maxT (fCons (fOp ixD (fVar 0) (fC (.int 0))) fNil)) (fC (.int 40))))))) (fRet (fC (.bl false))) fNext)
    (fRet (fCall 2 g_is_rule_within (fCons (fOp ixD (fVar 0) (fC (.int 1))) (fCons (fVar 1) fNil)))))
abbrev N_are_specials : List Str := ["value", "deep", "one", "at"]
def b_are_specials (g_is_special : GF) : FS :=
    (fSeq (fIfS (fOr (fNot (fB (fIsi "list" (fVar 0)))) (fOr (fB (fOp gtD (fCB lenD (fCons (fVar 0) fNil)) (fC (.int 8)))) (fB (fOp neD (fLc [2] (fiAny (fVar 0)) (fgName 2) (fNot (fB (fCall 2 g_is_special (fCons (fVar 2) (fCons (fVar 1) fNil))))) (fVar 2)) (fLst fNil))))) (fRet (fC (.bl false))) fNext)
    (fRet (fOp eqD (fLc [3] (fiRng2 (fCons (fC (.int 1)) (fCons (fCB lenD (fCons (fVar 0) fNil)) fNil))) (fgName 3) (fB (fOp geD (fOp ixD (fOp ixD (fVar 0) (fOp subD (fVar 3) (fC (.int 1)))) (fC (.int 0))) (fOp ixD (fOp ixD (fVar 0) (fVar 3)) (fC (.int 0))))) (fVar 3)) (fLst fNil))))
abbrev N_is_rule_within : List Str := ["value", "deep", "word", "need", "lead", "cap", "order", "unit", "specials"]
def b_is_rule_within (g_is_word g_are_numbers_of_race g_is_order g_is_rule_within g_are_specials : GF) : FS :=
    (fSeq (fIfS (fOr (fB (fCall 2 g_is_word (fCons (fVar 0) (fCons (fC (.str "rally")) fNil)))) (fB (fCall 2 g_is_word (fCons (fVar 0) (fCons (fC (.str "hand")) fNil))))) (fRet (fC (.bl true))) fNext)
    (fSeq (fIfS (fOr (fB (fOp eqD (fVar 1) (fC (.int 0)))) (fOr (fNot (fB (fIsi "tuple" (fVar 0)))) (fOr (fB (fOp neD (fCB lenD (fCons (fVar 0) fNil)) (fC (.int 7)))) (fNot (fB (fIsi "str" (fOp ixD (fVar 0) (fC (.int 0))))))))) (fRet (fC (.bl false))) fNext)
    (fSeq (fAsg (fVar 0) (fgTup 7 (fgCons (fgName 2) (fgCons (fgName 3) (fgCons (fgName 4) (fgCons (fgName 5) (fgCons (fgName 6) (fgCons (fgName 7) (fgCons (fgName 8) fgNil)))))))))
    (fSeq (fIfS (fOr (fB (fOp neD (fVar 2) (fC (.str "race")))) (fOr (fNot (fB (fCall 3 g_are_numbers_of_race (fCons (fVar 3) (fCons (fVar 4) (fCons (fVar 5) fNil)))))) (fNot (fB (fCall 1 g_is_order (fCons (fVar 6) fNil)))))) (fRet (fC (.bl false))) fNext)
    (fRet (fAndV (fCall 2 g_is_rule_within (fCons (fVar 7) (fCons (fOp subD (fVar 1) (fC (.int 1))) fNil))) (fCall 2 g_are_specials (fCons (fVar 8) (fCons (fOp subD (fVar 1) (fC (.int 1))) fNil)))))))))
mutual
def g_is_special : Nat → GF
  | 0 => fun _ _ => .bad
  | n + 1 => bodyT N_is_special 2 (b_is_special g_is_score (g_is_rule_within n))
def g_are_specials : Nat → GF
  | 0 => fun _ _ => .bad
  | n + 1 => bodyT N_are_specials 2 (b_are_specials (g_is_special n))
def g_is_rule_within : Nat → GF
  | 0 => fun _ _ => .bad
  | n + 1 => bodyT N_is_rule_within 2 (b_is_rule_within g_is_word g_are_numbers_of_race g_is_order (g_is_rule_within n) (g_are_specials n))
end
abbrev N_is_rule : List Str := ["value"]
def b_is_rule (g_is_rule_within : GF) : FS :=
    (fRet (fCall 2 g_is_rule_within (fCons (fVar 0) (fCons (fC c_DEEPEST) fNil))))
def g_is_rule : GF := bodyT N_is_rule 1 (b_is_rule (g_is_rule_within 16))
abbrev N__law_hash : List Str := ["seed", "index", "mixed"]
def b__law_hash : FS :=
    (fSeq (fAsg (fOp modD (fCB intD (fCons (fOp addD (fOp addD (fOp addD (fOp mulD (fVar 0) (fC (.int 1140671))) (fOp mulD (fOp mulD (fC (.int 27644437)) (fVar 1)) (fVar 1))) (fOp mulD (fC (.int 131)) (fVar 1))) (fC (.int 19))) fNil)) (fC (.int 2147483629))) (fgName 2))
    (fSeq (fAsg (fOp modD (fCB intD (fCons (fOp addD (fOp addD (fOp mulD (fVar 2) (fVar 2)) (fOp mulD (fC (.int 62089)) (fVar 1))) (fC (.int 32416187))) fNil)) (fC (.int 2147483587))) (fgName 2))
    (fRet (fOp modD (fCB intD (fCons (fOp mulD (fVar 2) (fC (.int 48271))) fNil)) (fC (.int 2147483647))))))
def g__law_hash : GF := bodyT N__law_hash 2 (b__law_hash)
abbrev N__law_random : List Str := ["generator", "bound", "drawn", "turn"]
def b__law_random (g__law_hash : GF) : FS :=
    (fSeq (fIfS (fB (fOp gtD (fOp ixD (fVar 0) (fC (.int 0))) (fC (.int 0)))) (fSeq (fAsg (fOp modD (fCB intD (fCons (fOp ixD (fVar 0) (fC (.int 0))) fNil)) (fVar 1)) (fgName 2))
    (fSeq (fAsg (fOp fdivD (fOp ixD (fVar 0) (fC (.int 0))) (fVar 1)) (fgSub (fVar 0) (fC (.int 0))))
    (fRet (fVar 2)))) fNext)
    (fSeq (fAsg (fC (.int 0)) (fgName 2))
    (fSeq (fFor (fiRng1 (fCons (fOp addD (fC (.int 1)) (fOp fdivD (fBits (fVar 1)) (fC (.int 30)))) fNil)) (fgName 3) (fSeq (fAsg (fOp addD (fOp ixD (fVar 0) (fC (.int 2))) (fC (.int 1))) (fgSub (fVar 0) (fC (.int 2))))
    (fAsg (fOp addD (fOp mulD (fVar 2) (fC (.int 2147483587))) (fCall 2 g__law_hash (fCons (fOp ixD (fVar 0) (fC (.int 1))) (fCons (fOp ixD (fVar 0) (fC (.int 2))) fNil)))) (fgName 2))))
    (fRet (fOp modD (fCB intD (fCons (fVar 2) fNil)) (fVar 1))))))
def g__law_random : GF := bodyT N__law_random 2 (b__law_random g__law_hash)
abbrev N__law_cell : List Str := ["script", "index"]
def b__law_cell : FS :=
    (fSeq (fIfS (fB (fOp ltD (fVar 1) (fCB lenD (fCons (fVar 0) fNil)))) (fRet (fOp ixD (fVar 0) (fVar 1))) fNext)
    (fRet (fOp modD (fCB sumD (fCons (fSl (fVar 0) fNoPart (fPart (fC (.int 1)))) fNil)) (fC (.int 1000003)))))
def g__law_cell : GF := bodyT N__law_cell 2 (b__law_cell)
abbrev N__law_generator : List Str := ["script", "index", "seed"]
def b__law_generator (g__law_cell : GF) : FS :=
    (fSeq (fAsg (fCall 2 g__law_cell (fCons (fVar 0) (fCons (fVar 1) fNil))) (fgName 2))
    (fRet (fLstC (fCons (fOp modD (fCB intD (fCons (fCB maxT (fCons (fOp subD (fVar 2) (fOp powD (fC (.int 10)) (fC (.int 18)))) (fCons (fC (.int 0)) fNil))) fNil)) (fOp powD (fOp powD (fC (.int 10)) (fC (.int 60))) (fC (.int 10)))) (fCons (fOp modD (fCB intD (fCons (fVar 2) fNil)) (fC (.int 2147483647))) (fCons (fOp mulD (fC (.int 1000)) (fVar 1)) fNil))))))
def g__law_generator : GF := bodyD N__law_generator 2 (b__law_generator g__law_cell)
abbrev N__law_pick : List Str := ["generator", "things"]
def b__law_pick (g__law_random : GF) : FS :=
    (fRet (fOp ixD (fVar 1) (fCall 2 g__law_random (fCons (fVar 0) (fCons (fCB lenD (fCons (fVar 1) fNil)) fNil)))))
def g__law_pick : GF := bodyT N__law_pick 2 (b__law_pick g__law_random)
abbrev N__law_same : List Str := ["told", "due", "at"]
def b__law_same (g__law_same : GF) : FS :=
    (fSeq (fIfS (fOr (fB (fOp isD (fVar 1) (fC .non))) (fOr (fB (fOp isD (fVar 1) (fC (.bl true)))) (fB (fOp isD (fVar 1) (fC (.bl false)))))) (fRet (fIf (fB (fOp isD (fVar 1) (fC .non))) (fOp isD (fVar 0) (fC .non)) (fIf (fB (fOp isD (fVar 1) (fC (.bl true)))) (fOp isD (fVar 0) (fC (.bl true))) (fOp isD (fVar 0) (fC (.bl false)))))) fNext)
    (fSeq (fIfS (fB (fIsi2 "list" "tuple" (fVar 1))) (fSeq (fIfS (fOr (fAnd (fNot (fB (fIsi "list" (fVar 0)))) (fB (fIsi "list" (fVar 1)))) (fAnd (fNot (fB (fIsi "tuple" (fVar 0)))) (fB (fIsi "tuple" (fVar 1))))) (fRet (fC (.bl false))) fNext)
    (fRet (fAndV (fOp eqD (fCB lenD (fCons (fVar 0) fNil)) (fCB lenD (fCons (fVar 1) fNil))) (fOp eqD (fLc [2] (fiRng1 (fCons (fCB lenD (fCons (fVar 1) fNil)) fNil)) (fgName 2) (fNot (fB (fCall 2 g__law_same (fCons (fOp ixD (fVar 0) (fVar 2)) (fCons (fOp ixD (fVar 1) (fVar 2)) fNil))))) (fVar 2)) (fLst fNil))))) fNext)
    (fSeq (fIfS (fB (fIsi "int" (fVar 1))) (fRet (fAndV (fIsi "int" (fVar 0)) (fAndV (fNotV (fIsi "bool" (fVar 0))) (fOp eqD (fVar 0) (fVar 1))))) fNext)
    (fRet (fAndV (fIsi "str" (fVar 0)) (fOp eqD (fVar 0) (fVar 1)))))))
def g__law_same : Nat → GF
  | 0 => fun _ _ => .bad
  | n + 1 => bodyT N__law_same 2 (b__law_same (g__law_same n))
abbrev N__law_order : List Str := ["generator", "word", "mark"]
def b__law_order (g__law_pick g__law_random : GF) : FS :=
    (fSeq (fAsg (fCall 2 g__law_pick (fCons (fVar 0) (fCons (fLst (fCons (fC (.str "on")) (fCons (fC (.str "turns")) (fCons (fC (.str "turns")) (fCons (fC (.str "winner")) (fCons (fC (.str "loser")) (fCons (fC (.str "row")) fNil))))))) fNil))) (fgName 1))
    (fSeq (fIfS (fB (fOp neD (fVar 1) (fC (.str "row")))) (fRet (fTup (fCons (fVar 1) fNil))) fNext)
    (fRet (fTup (fCons (fC (.str "row")) (fCons (fLc [2] (fiRng1 (fCons (fCall 2 g__law_pick (fCons (fVar 0) (fCons (fLst (fCons (fC (.int 1)) (fCons (fC (.int 2)) (fCons (fC (.int 2)) (fCons (fC (.int 3)) (fCons (fC (.int 4)) (fCons (fC (.int 4)) fNil))))))) fNil))) fNil)) (fgName 2) fYes (fCall 2 g__law_random (fCons (fVar 0) (fCons (fC (.int 2)) fNil)))) fNil))))))
def g__law_order : GF := bodyT N__law_order 1 (b__law_order g__law_pick g__law_random)
abbrev N__law_race : List Str := ["generator", "deep", "most", "need", "lead", "cap", "specials", "unit", "turn", "score", "place", "special"]
def b__law_race (g__law_random g__law_pick g__law_rule g__law_order : GF) : FS :=
    (fSeq (fPar3 3 4 5 (fCons (fOp addD (fC (.int 1)) (fCall 2 g__law_random (fCons (fVar 0) (fCons (fVar 2) fNil)))) (fCons (fCall 2 g__law_pick (fCons (fVar 0) (fCons (fLst (fCons (fC (.int 1)) (fCons (fC (.int 1)) (fCons (fC (.int 1)) (fCons (fC (.int 2)) (fCons (fC (.int 2)) (fCons (fC (.int 3)) fNil))))))) fNil))) (fCons (fC .non) fNil))))
    (fSeq (fIfS (fB (fOp eqD (fCall 2 g__law_random (fCons (fVar 0) (fCons (fC (.int 3)) fNil))) (fC (.int 0)))) (fAsg (fOp addD (fVar 3) (fCall 2 g__law_random (fCons (fVar 0) (fCons (fC (.int 3)) fNil)))) (fgName 5)) fNext)
    (fSeq (fPar 6 7 (fCons (fLstC fNil) (fCons (fCall 3 g__law_rule (fCons (fVar 0) (fCons (fOp subD (fVar 1) (fC (.int 1))) (fCons (fVar 2) fNil)))) fNil)))
    (fSeq (fFor (fiRng1 (fCons (fCall 2 g__law_pick (fCons (fVar 0) (fCons (fLst (fCons (fC (.int 0)) (fCons (fC (.int 0)) (fCons (fC (.int 0)) (fCons (fC (.int 1)) (fCons (fC (.int 2)) fNil)))))) fNil))) fNil)) (fgName 8) (fSeq (fAsg (fTup (fCons (fCall 2 g__law_random (fCons (fVar 0) (fCons (fOp addD (fVar 3) (fC (.int 1))) fNil))) (fCons (fCall 2 g__law_random (fCons (fVar 0) (fCons (fOp addD (fVar 3) (fC (.int 1))) fNil))) fNil))) (fgName 9))
    (fIfS (fB (fOp notInD (fVar 9) (fLc [10, 11] (fiAny (fVar 6)) (fgTup 2 (fgCons (fgName 10) (fgCons (fgName 11) fgNil))) fYes (fVar 10)))) (fDrop (fApp (fVar 6) (fTup (fCons (fVar 9) (fCons (fCall 3 g__law_rule (fCons (fVar 0) (fCons (fOp subD (fVar 1) (fC (.int 1))) (fCons (fVar 2) fNil)))) fNil))))) fNext)))
    (fRet (fTup (fCons (fC (.str "race")) (fCons (fVar 3) (fCons (fVar 4) (fCons (fVar 5) (fCons (fCall 1 g__law_order (fCons (fVar 0) fNil)) (fCons (fVar 7) (fCons (fCB sortedD (fCons (fVar 6) fNil)) fNil)))))))))))))
abbrev N__law_rule : List Str := ["generator", "deep", "most"]
def b__law_rule (g__law_random g__law_pick g__law_race : GF) : FS :=
    (fSeq (fIfS (fOr (fB (fOp eqD (fVar 1) (fC (.int 0)))) (fB (fOp eqD (fCall 2 g__law_random (fCons (fVar 0) (fCons (fC (.int 9)) fNil))) (fC (.int 0))))) (fRet (fCall 2 g__law_pick (fCons (fVar 0) (fCons (fLst (fCons (fTup (fCons (fC (.str "rally")) fNil)) (fCons (fTup (fCons (fC (.str "rally")) fNil)) (fCons (fTup (fCons (fC (.str "rally")) fNil)) (fCons (fTup (fCons (fC (.str "hand")) fNil)) fNil))))) fNil)))) fNext)
    (fRet (fCall 3 g__law_race (fCons (fVar 0) (fCons (fVar 1) (fCons (fVar 2) fNil))))))
mutual
def g__law_race : Nat → GF
  | 0 => fun _ _ => .bad
  | n + 1 => bodyT N__law_race 3 (b__law_race g__law_random g__law_pick (g__law_rule n) g__law_order)
def g__law_rule : Nat → GF
  | 0 => fun _ _ => .bad
  | n + 1 => bodyT N__law_rule 3 (b__law_rule g__law_random g__law_pick (g__law_race n))
end
abbrev N__law_nested : List Str := ["generator", "deep", "rule", "turn", "special", "need", "cap"]
def b__law_nested (g__law_pick g__law_random g__law_order : GF) : FS :=
    (fSeq (fAsg (fCall 2 g__law_pick (fCons (fVar 0) (fCons (fLst (fCons (fTup (fCons (fC (.str "rally")) fNil)) (fCons (fTup (fCons (fC (.str "hand")) fNil)) fNil))) fNil))) (fgName 2))
    (fSeq (fFor (fiRng1 (fCons (fVar 1) fNil)) (fgName 3) (fSeq (fAsg (fIf (fB (fOp eqD (fCall 2 g__law_random (fCons (fVar 0) (fCons (fC (.int 2)) fNil))) (fC (.int 0)))) (fLst (fCons (fTup (fCons (fTup (fCons (fVar 3) (fCons (fC (.int 40)) fNil))) (fCons (fVar 2) fNil))) fNil)) (fLst fNil)) (fgName 4))
    (fSeq (fAsg (fOp addD (fC (.int 1)) (fCall 2 g__law_random (fCons (fVar 0) (fCons (fC (.int 30)) fNil)))) (fgName 5))
    (fSeq (fAsg (fCall 2 g__law_pick (fCons (fVar 0) (fCons (fLst (fCons (fC .non) (fCons (fVar 5) (fCons (fC (.int 40)) fNil)))) fNil))) (fgName 6))
    (fAsg (fTup (fCons (fC (.str "race")) (fCons (fVar 5) (fCons (fOp addD (fC (.int 1)) (fCall 2 g__law_random (fCons (fVar 0) (fCons (fC (.int 3)) fNil)))) (fCons (fVar 6) (fCons (fCall 1 g__law_order (fCons (fVar 0) fNil)) (fCons (fVar 2) (fCons (fVar 4) fNil)))))))) (fgName 2))))))
    (fRet (fVar 2))))
def g__law_nested : GF := bodyT N__law_nested 2 (b__law_nested g__law_pick g__law_random g__law_order)
abbrev N__law_wrong_races : List Str := ["rule", "word", "need", "lead", "cap", "order", "unit", "specials", "many", "at", "found", "special"]
def b__law_wrong_races : FS :=
    (fSeq (fAsg (fVar 0) (fgTup 7 (fgCons (fgName 1) (fgCons (fgName 2) (fgCons (fgName 3) (fgCons (fgName 4) (fgCons (fgName 5) (fgCons (fgName 6) (fgCons (fgName 7) fgNil)))))))))
    (fSeq (fAsg (fLc [9] (fiRng1 (fCons (fC (.int 9)) fNil)) (fgName 9) fYes (fTup (fCons (fTup (fCons (fVar 9) (fCons (fVar 9) fNil))) (fCons (fTup (fCons (fC (.str "rally")) fNil)) fNil)))) (fgName 8))
    (fSeq (fAsg (fLstC (fCons (fCB listD (fCons (fVar 0) fNil)) (fCons (fSl (fVar 0) fNoPart (fPart (fC (.int 6)))) (fCons (fOp addD (fVar 0) (fTup (fCons (fC (.int 1)) fNil))) (fCons (fOp addD (fTup (fCons (fC (.str "Race")) fNil)) (fSl (fVar 0) (fPart (fC (.int 1))) fNoPart)) (fCons (fOp addD (fTup (fCons (fC .non) fNil)) (fSl (fVar 0) (fPart (fC (.int 1))) fNoPart)) (fCons (fOp addD (fTup (fCons (fVar 1) (fCons (fC (.int 0)) (fCons (fVar 3) (fCons (fC .non) fNil))))) (fSl (fVar 0) (fPart (fC (.int 4))) fNoPart)) (fCons (fOp addD (fTup (fCons (fVar 1) (fCons (fC (.int 31)) (fCons (fVar 3) (fCons (fC .non) fNil))))) (fSl (fVar 0) (fPart (fC (.int 4))) fNoPart)) (fCons (fOp addD (fTup (fCons (fVar 1) (fCons (fC (.bl true)) (fCons (fVar 3) (fCons (fC .non) fNil))))) (fSl (fVar 0) (fPart (fC (.int 4))) fNoPart)) fNil))))))))) (fgName 10))
    (fSeq (fAsg (fAddC (fVar 10) (fLst (fCons (fOp addD (fTup (fCons (fVar 1) (fCons (fVar 2) (fCons (fC (.int 0)) fNil)))) (fSl (fVar 0) (fPart (fC (.int 3))) fNoPart)) (fCons (fOp addD (fTup (fCons (fVar 1) (fCons (fVar 2) (fCons (fC (.int 4)) fNil)))) (fSl (fVar 0) (fPart (fC (.int 3))) fNoPart)) (fCons (fOp addD (fTup (fCons (fVar 1) (fCons (fVar 2) (fCons (fC (.bl true)) fNil)))) (fSl (fVar 0) (fPart (fC (.int 3))) fNoPart)) (fCons (fOp addD (fTup (fCons (fVar 1) (fCons (fVar 2) (fCons (fVar 3) (fCons (fOp subD (fVar 2) (fC (.int 1))) fNil))))) (fSl (fVar 0) (fPart (fC (.int 4))) fNoPart)) (fCons (fOp addD (fTup (fCons (fVar 1) (fCons (fVar 2) (fCons (fVar 3) (fCons (fC (.int 41)) fNil))))) (fSl (fVar 0) (fPart (fC (.int 4))) fNoPart)) fNil))))))) (fgName 10))
    (fSeq (fAsg (fAddC (fVar 10) (fLst (fCons (fOp addD (fTup (fCons (fVar 1) (fCons (fVar 2) (fCons (fVar 3) (fCons (fC (.str "5")) fNil))))) (fSl (fVar 0) (fPart (fC (.int 4))) fNoPart)) (fCons (fOp addD (fTup (fCons (fVar 1) (fCons (fCB strD (fCons (fVar 2) fNil)) (fCons (fVar 3) (fCons (fC .non) fNil))))) (fSl (fVar 0) (fPart (fC (.int 4))) fNoPart)) (fCons (fOp addD (fTup (fCons (fVar 1) (fCons (fC (.int 1)) (fCons (fVar 3) (fCons (fC (.bl true)) fNil))))) (fSl (fVar 0) (fPart (fC (.int 4))) fNoPart)) (fCons (fOp addD (fTup (fCons (fVar 1) (fCons (fVar 2) (fCons (fVar 3) (fCons (fVar 4) (fCons (fC .non) fNil)))))) (fSl (fVar 0) (fPart (fC (.int 5))) fNoPart)) fNil)))))) (fgName 10))
    (fSeq (fFor (fiAny (fLst (fCons (fC (.str "on")) (fCons (fTup (fCons (fC (.str "off")) fNil)) (fCons (fTup (fCons (fC (.str "on")) (fCons (fLst fNil) fNil))) (fCons (fTup (fCons (fC (.str "row")) fNil)) fNil)))))) (fgName 5) (fDrop (fApp (fVar 10) (fOp addD (fTup (fCons (fVar 1) (fCons (fVar 2) (fCons (fVar 3) (fCons (fVar 4) (fCons (fVar 5) fNil)))))) (fSl (fVar 0) (fPart (fC (.int 5))) fNoPart)))))
    (fSeq (fAsg (fAddC (fVar 10) (fLst (fCons (fOp addD (fSl (fVar 0) fNoPart (fPart (fC (.int 5)))) (fTup (fCons (fC .non) (fCons (fVar 7) fNil)))) (fCons (fOp addD (fSl (fVar 0) fNoPart (fPart (fC (.int 5)))) (fTup (fCons (fC (.str "rally")) (fCons (fVar 7) fNil)))) (fCons (fOp addD (fSl (fVar 0) fNoPart (fPart (fC (.int 5)))) (fTup (fCons (fTup (fCons (fC (.str "rally")) (fCons (fC (.int 1)) fNil))) (fCons (fVar 7) fNil)))) (fCons (fOp addD (fSl (fVar 0) fNoPart (fPart (fC (.int 6)))) (fTup (fCons (fC .non) fNil))) (fCons (fOp addD (fSl (fVar 0) fNoPart (fPart (fC (.int 6)))) (fTup (fCons (fCB tupleD (fCons (fVar 7) fNil)) fNil))) (fCons (fOp addD (fSl (fVar 0) fNoPart (fPart (fC (.int 6)))) (fTup (fCons (fVar 8) fNil))) fNil)))))))) (fgName 10))
    (fSeq (fAsg (fAddC (fVar 10) (fLc [11] (fiAny (fLst (fCons (fC .non) (fCons (fTup (fCons (fTup (fCons (fC (.int 1)) (fCons (fC (.int 1)) fNil))) fNil)) (fCons (fTup (fCons (fTup (fCons (fC (.int 1)) (fCons (fC (.int 1)) fNil))) (fCons (fTup (fCons (fC (.str "rally")) fNil)) (fCons (fC (.int 1)) fNil)))) (fCons (fLst (fCons (fTup (fCons (fC (.int 1)) (fCons (fC (.int 1)) fNil))) (fCons (fTup (fCons (fC (.str "rally")) fNil)) fNil))) (fCons (fTup (fCons (fLst (fCons (fC (.int 1)) (fCons (fC (.int 1)) fNil))) (fCons (fTup (fCons (fC (.str "rally")) fNil)) fNil))) (fCons (fTup (fCons (fTup (fCons (fC (.int 1)) fNil)) (fCons (fTup (fCons (fC (.str "rally")) fNil)) fNil))) (fCons (fTup (fCons (fTup (fCons (fC (.int 1)) (fCons (fC (.int 41)) fNil))) (fCons (fTup (fCons (fC (.str "rally")) fNil)) fNil))) fNil))))))))) (fgName 11) fYes (fOp addD (fSl (fVar 0) fNoPart (fPart (fC (.int 6)))) (fTup (fCons (fLst (fCons (fVar 11) fNil)) fNil))))) (fgName 10))
    (fSeq (fAsg (fAddC (fVar 10) (fLc [11] (fiAny (fLst (fCons (fTup (fCons (fTup (fCons (fOp subD (fC (.int 0)) (fC (.int 1))) (fCons (fC (.int 1)) fNil))) (fCons (fTup (fCons (fC (.str "rally")) fNil)) fNil))) (fCons (fTup (fCons (fTup (fCons (fC (.bl true)) (fCons (fC (.int 1)) fNil))) (fCons (fTup (fCons (fC (.str "rally")) fNil)) fNil))) (fCons (fTup (fCons (fTup (fCons (fC (.int 1)) (fCons (fC (.int 1)) fNil))) (fCons (fC .non) fNil))) (fCons (fTup (fCons (fTup (fCons (fC (.int 1)) (fCons (fC (.int 1)) fNil))) (fCons (fTup (fCons (fC (.str "rallies")) fNil)) fNil))) fNil)))))) (fgName 11) fYes (fOp addD (fSl (fVar 0) fNoPart (fPart (fC (.int 6)))) (fTup (fCons (fLst (fCons (fVar 11) fNil)) fNil))))) (fgName 10))
    (fRet (fOp addD (fVar 10) (fLst (fCons (fOp addD (fSl (fVar 0) fNoPart (fPart (fC (.int 6)))) (fTup (fCons (fLst (fCons (fTup (fCons (fTup (fCons (fC (.int 1)) (fCons (fC (.int 1)) fNil))) (fCons (fTup (fCons (fC (.str "rally")) fNil)) fNil))) (fCons (fTup (fCons (fTup (fCons (fC (.int 1)) (fCons (fC (.int 1)) fNil))) (fCons (fTup (fCons (fC (.str "hand")) fNil)) fNil))) fNil))) fNil))) (fCons (fOp addD (fSl (fVar 0) fNoPart (fPart (fC (.int 6)))) (fTup (fCons (fLst (fCons (fTup (fCons (fTup (fCons (fC (.int 1)) (fCons (fC (.int 2)) fNil))) (fCons (fTup (fCons (fC (.str "rally")) fNil)) fNil))) (fCons (fTup (fCons (fTup (fCons (fC (.int 1)) (fCons (fC (.int 1)) fNil))) (fCons (fTup (fCons (fC (.str "hand")) fNil)) fNil))) fNil))) fNil))) fNil))))))))))))))
def g__law_wrong_races : GF := bodyT N__law_wrong_races 1 (b__law_wrong_races)
abbrev N__law_plain_right : List Str := ["rows", "row", "side", "scores", "score", "orders", "order", "parts", "part", "chances"]
def b__law_plain_right (g__law_same g_are_rallies g_is_side g_is_score g_is_order g_is_fraction g_is_chance : GF) : FS :=
    (fSeq (fAsg (fLst (fCons (fLst fNil) (fCons (fLst (fCons (fC (.int 0)) (fCons (fC (.int 1)) (fCons (fC (.int 1)) fNil)))) (fCons (fOp mulD (fLst (fCons (fC (.int 0)) fNil)) (fC (.int 40))) (fCons (fTup (fCons (fC (.int 0)) (fCons (fC (.int 1)) fNil))) (fCons (fLst (fCons (fC (.int 2)) fNil)) (fCons (fLst (fCons (fC (.bl true)) fNil)) (fCons (fLst (fCons (fC .non) fNil)) (fCons (fC (.str "01")) (fCons (fC .non) (fCons (fC (.int 0)) fNil))))))))))) (fgName 0))
    (fSeq (fIfS (fNot (fB (fCall 2 g__law_same (fCons (fLc [1] (fiAny (fVar 0)) (fgName 1) fYes (fCall 1 g_are_rallies (fCons (fVar 1) fNil))) (fCons (fOp addD (fLst (fCons (fC (.bl true)) (fCons (fC (.bl true)) (fCons (fC (.bl true)) fNil)))) (fOp mulD (fLst (fCons (fC (.bl false)) fNil)) (fC (.int 7)))) fNil))))) (fRet (fC (.bl false))) fNext)
    (fSeq (fIfS (fNot (fB (fCall 2 g__law_same (fCons (fLc [2] (fiAny (fLst (fCons (fC (.int 0)) (fCons (fC (.int 1)) (fCons (fC (.int 2)) (fCons (fOp subD (fC (.int 0)) (fC (.int 1))) (fCons (fC (.bl true)) (fCons (fC (.bl false)) (fCons (fC .non) (fCons (fC (.str "0")) (fCons (fTup (fCons (fC (.int 0)) fNil)) fNil))))))))))) (fgName 2) fYes (fCall 1 g_is_side (fCons (fVar 2) fNil))) (fCons (fOp addD (fLst (fCons (fC (.bl true)) (fCons (fC (.bl true)) fNil))) (fOp mulD (fLst (fCons (fC (.bl false)) fNil)) (fC (.int 7)))) fNil))))) (fRet (fC (.bl false))) fNext)
    (fSeq (fAsg (fLst (fCons (fTup (fCons (fC (.int 0)) (fCons (fC (.int 0)) fNil))) (fCons (fTup (fCons (fC (.int 7)) (fCons (fOp powD (fC (.int 10)) (fC (.int 30))) fNil))) (fCons (fLst (fCons (fC (.int 1)) (fCons (fC (.int 1)) fNil))) (fCons (fTup (fCons (fC (.int 1)) fNil)) (fCons (fTup (fCons (fC (.int 1)) (fCons (fC (.int 2)) (fCons (fC (.int 3)) fNil)))) (fCons (fTup (fCons (fOp subD (fC (.int 0)) (fC (.int 1))) (fCons (fC (.int 2)) fNil))) (fCons (fTup (fCons (fC (.bl true)) (fCons (fC (.int 1)) fNil))) (fCons (fTup (fCons (fC (.str "1")) (fCons (fC (.int 1)) fNil))) (fCons (fC .non) fNil)))))))))) (fgName 3))
    (fSeq (fIfS (fNot (fB (fCall 2 g__law_same (fCons (fLc [4] (fiAny (fVar 3)) (fgName 4) fYes (fCall 1 g_is_score (fCons (fVar 4) fNil))) (fCons (fOp addD (fLst (fCons (fC (.bl true)) (fCons (fC (.bl true)) fNil))) (fOp mulD (fLst (fCons (fC (.bl false)) fNil)) (fC (.int 7)))) fNil))))) (fRet (fC (.bl false))) fNext)
    (fSeq (fAsg (fLst (fCons (fTup (fCons (fC (.str "on")) fNil)) (fCons (fTup (fCons (fC (.str "turns")) fNil)) (fCons (fTup (fCons (fC (.str "winner")) fNil)) (fCons (fTup (fCons (fC (.str "loser")) fNil)) (fCons (fTup (fCons (fC (.str "row")) (fCons (fLst (fCons (fC (.int 0)) fNil)) fNil))) (fCons (fTup (fCons (fC (.str "row")) (fCons (fLst (fCons (fC (.int 1)) (fCons (fC (.int 0)) (fCons (fC (.int 1)) (fCons (fC (.int 1)) (fCons (fC (.int 0)) (fCons (fC (.int 0)) (fCons (fC (.int 1)) (fCons (fC (.int 1)) fNil))))))))) fNil))) (fCons (fTup (fCons (fC (.str "row")) (fCons (fLst fNil) fNil))) (fCons (fTup (fCons (fC (.str "row")) (fCons (fOp mulD (fLst (fCons (fC (.int 0)) fNil)) (fC (.int 9))) fNil))) (fCons (fTup (fCons (fC (.str "row")) (fCons (fTup (fCons (fC (.int 0)) (fCons (fC (.int 1)) fNil))) fNil))) (fCons (fTup (fCons (fC (.str "row")) (fCons (fLst (fCons (fC (.bl true)) fNil)) fNil))) (fCons (fTup (fCons (fC (.str "row")) (fCons (fLst (fCons (fC (.int 2)) fNil)) fNil))) (fCons (fTup (fCons (fC (.str "row")) fNil)) fNil))))))))))))) (fgName 5))
    (fSeq (fAsg (fOp addD (fVar 5) (fLst (fCons (fTup (fCons (fC (.str "on")) (fCons (fLst (fCons (fC (.int 0)) fNil)) fNil))) (fCons (fLst (fCons (fC (.str "on")) fNil)) (fCons (fC (.str "on")) (fCons (fC .non) (fCons (fTup (fCons (fC (.str "turn")) fNil)) (fCons (fTup (fCons (fC (.int 1)) fNil)) (fCons (fTup fNil) fNil))))))))) (fgName 5))
    (fSeq (fIfS (fNot (fB (fCall 2 g__law_same (fCons (fLc [6] (fiAny (fVar 5)) (fgName 6) fYes (fCall 1 g_is_order (fCons (fVar 6) fNil))) (fCons (fOp addD (fOp mulD (fLst (fCons (fC (.bl true)) fNil)) (fC (.int 6))) (fOp mulD (fLst (fCons (fC (.bl false)) fNil)) (fC (.int 13)))) fNil))))) (fRet (fC (.bl false))) fNext)
    (fSeq (fAsg (fLst (fCons (fTup (fCons (fC (.int 1)) (fCons (fC (.int 2)) fNil))) (fCons (fTup (fCons (fC (.int 0)) (fCons (fC (.int 1)) fNil))) (fCons (fTup (fCons (fOp subD (fC (.int 0)) (fC (.int 3))) (fCons (fC (.int 7)) fNil))) (fCons (fTup (fCons (fC (.int 2)) (fCons (fC (.int 4)) fNil))) (fCons (fTup (fCons (fC (.int 1)) (fCons (fC (.int 0)) fNil))) (fCons (fTup (fCons (fC (.int 1)) (fCons (fOp subD (fC (.int 0)) (fC (.int 2))) fNil))) (fCons (fLst (fCons (fC (.int 1)) (fCons (fC (.int 2)) fNil))) (fCons (fTup (fCons (fC (.int 1)) fNil)) (fCons (fTup (fCons (fC (.int 1)) (fCons (fC (.int 2)) (fCons (fC (.int 3)) fNil)))) (fCons (fTup (fCons (fC (.bl true)) (fCons (fC (.int 2)) fNil))) (fCons (fTup (fCons (fC (.int 1)) (fCons (fC (.bl true)) fNil))) (fCons (fC .non) (fCons (fC (.int 1)) fNil)))))))))))))) (fgName 7))
    (fSeq (fIfS (fNot (fB (fCall 2 g__law_same (fCons (fLc [8] (fiAny (fVar 7)) (fgName 8) fYes (fCall 1 g_is_fraction (fCons (fVar 8) fNil))) (fCons (fOp addD (fOp mulD (fLst (fCons (fC (.bl true)) fNil)) (fC (.int 3))) (fOp mulD (fLst (fCons (fC (.bl false)) fNil)) (fC (.int 10)))) fNil))))) (fRet (fC (.bl false))) fNext)
    (fSeq (fAsg (fLst (fCons (fTup (fCons (fC (.int 1)) (fCons (fC (.int 2)) fNil))) (fCons (fTup (fCons (fC (.int 1)) (fCons (fOp powD (fC (.int 10)) (fC (.int 50))) fNil))) (fCons (fTup (fCons (fC (.int 0)) (fCons (fC (.int 1)) fNil))) (fCons (fTup (fCons (fC (.int 1)) (fCons (fC (.int 1)) fNil))) (fCons (fTup (fCons (fC (.int 3)) (fCons (fC (.int 2)) fNil))) (fCons (fTup (fCons (fOp subD (fC (.int 0)) (fC (.int 1))) (fCons (fC (.int 2)) fNil))) (fCons (fTup (fCons (fC (.int 2)) (fCons (fC (.int 4)) fNil))) (fCons (fC .non) fNil))))))))) (fgName 9))
    (fRet (fCall 2 g__law_same (fCons (fLc [8] (fiAny (fVar 9)) (fgName 8) fYes (fCall 1 g_is_chance (fCons (fVar 8) fNil))) (fCons (fOp addD (fLst (fCons (fC (.bl true)) (fCons (fC (.bl true)) fNil))) (fOp mulD (fLst (fCons (fC (.bl false)) fNil)) (fC (.int 6)))) fNil)))))))))))))))
def g__law_plain_right : GF := bodyT N__law_plain_right 0 (b__law_plain_right (g__law_same 16) g_are_rallies g_is_side g_is_score g_is_order g_is_fraction g_is_chance)
abbrev N_law : List Str := ["script", "generator", "deep", "rule", "drawn", "kept", "bad", "deeper", "turn", "special", "wide", "at"]
def b_law (g__law_generator g__law_random g__law_nested g__law_rule g_is_rule g__law_wrong_races g__law_same g__law_plain_right : GF) : FS :=
    (fSeq (fAsg (fCall 2 g__law_generator (fCons (fVar 0) (fCons (fC (.int 0)) fNil))) (fgName 1))
    (fSeq (fAsg (fOp addD (fC (.int 1)) (fCall 2 g__law_random (fCons (fVar 1) (fCons (fC (.int 4)) fNil)))) (fgName 2))
    (fSeq (fPar 3 4 (fCons (fCall 2 g__law_nested (fCons (fVar 1) (fCons (fVar 2) fNil))) (fCons (fCall 3 g__law_rule (fCons (fVar 1) (fCons (fOp addD (fC (.int 1)) (fCall 2 g__law_random (fCons (fVar 1) (fCons (fC (.int 4)) fNil)))) (fCons (fC (.int 30)) fNil)))) fNil)))
    (fSeq (fAsg (fCB reprD (fCons (fLst (fCons (fVar 3) (fCons (fVar 4) fNil))) fNil)) (fgName 5))
    (fSeq (fIfS (fOr (fB (fOp isnotD (fCall 1 g_is_rule (fCons (fVar 3) fNil)) (fC (.bl true)))) (fOr (fB (fOp isnotD (fCall 1 g_is_rule (fCons (fVar 4) fNil)) (fC (.bl true)))) (fOr (fB (fOp isnotD (fCall 1 g_is_rule (fCons (fTup (fCons (fC (.str "rally")) fNil)) fNil)) (fC (.bl true)))) (fB (fOp isnotD (fCall 1 g_is_rule (fCons (fTup (fCons (fC (.str "hand")) fNil)) fNil)) (fC (.bl true))))))) (fRet (fC (.bl false))) fNext)
    (fSeq (fIfS (fB (fOp neD (fLc [6] (fiAny (fCall 1 g__law_wrong_races (fCons (fVar 3) fNil))) (fgName 6) (fB (fOp isnotD (fCall 1 g_is_rule (fCons (fVar 6) fNil)) (fC (.bl false)))) (fVar 6)) (fLst fNil))) (fRet (fC (.bl false))) fNext)
    (fSeq (fAsg (fVar 3) (fgName 7))
    (fSeq (fFor (fiRng1 (fCons (fC (.int 4)) fNil)) (fgName 8) (fSeq (fAsg (fTup (fCons (fC (.str "race")) (fCons (fC (.int 1)) (fCons (fC (.int 1)) (fCons (fC .non) (fCons (fTup (fCons (fC (.str "on")) fNil)) (fCons (fVar 7) (fCons (fLst fNil) fNil)))))))) (fgName 7))
    (fIfS (fNot (fB (fCall 2 g__law_same (fCons (fCall 1 g_is_rule (fCons (fVar 7) fNil)) (fCons (fOp leD (fOp addD (fOp addD (fVar 2) (fVar 8)) (fC (.int 1))) (fC (.int 4))) fNil))))) (fRet (fC (.bl false))) fNext)))
    (fSeq (fIfS (fB (fOp neD (fLc [6] (fiAny (fLst (fCons (fC .non) (fCons (fC (.int 7)) (fCons (fC (.str "rally")) (fCons (fLst (fCons (fC (.str "rally")) fNil)) (fCons (fTup (fCons (fC (.str "rally")) (fCons (fC (.int 1)) fNil))) (fCons (fTup (fCons (fC (.str "hands")) fNil)) (fCons (fTup fNil) (fCons (fTup (fCons (fC .non) fNil)) (fCons (fC (.dct [])) fNil))))))))))) (fgName 6) (fB (fOp isnotD (fCall 1 g_is_rule (fCons (fVar 6) fNil)) (fC (.bl false)))) (fVar 6)) (fLst fNil))) (fRet (fC (.bl false))) fNext)
    (fSeq (fAsg (fTup (fCons (fC (.str "race")) (fCons (fC (.int 2)) (fCons (fC (.int 1)) (fCons (fC .non) (fCons (fTup (fCons (fC (.str "on")) fNil)) (fCons (fTup (fCons (fC (.str "rally")) fNil)) (fCons (fLst (fCons (fTup (fCons (fTup (fCons (fC (.int 1)) (fCons (fC (.int 1)) fNil))) (fCons (fTup (fCons (fC (.str "race")) (fCons (fC (.int 1)) (fCons (fC (.int 1)) (fCons (fC .non) (fCons (fTup (fCons (fC (.str "on")) fNil)) (fCons (fTup (fCons (fC (.str "race")) (fCons (fC (.int 1)) (fCons (fC (.int 1)) (fCons (fC .non) (fCons (fTup (fCons (fC (.str "on")) fNil)) (fCons (fTup (fCons (fC (.str "race")) (fCons (fC (.int 1)) (fCons (fC (.int 1)) (fCons (fC .non) (fCons (fTup (fCons (fC (.str "on")) fNil)) (fCons (fTup (fCons (fC (.str "rally")) fNil)) (fCons (fLst fNil) fNil)))))))) (fCons (fLst fNil) fNil)))))))) (fCons (fLst fNil) fNil)))))))) fNil))) fNil)) fNil)))))))) (fgName 9))
    (fSeq (fAsg (fTup (fCons (fC (.str "race")) (fCons (fC (.int 30)) (fCons (fC (.int 3)) (fCons (fC (.int 40)) (fCons (fTup (fCons (fC (.str "row")) (fCons (fOp mulD (fLst (fCons (fC (.int 0)) fNil)) (fC (.int 8))) fNil))) (fCons (fTup (fCons (fC (.str "rally")) fNil)) (fCons (fLc [11] (fiRng1 (fCons (fC (.int 8)) fNil)) (fgName 11) fYes (fTup (fCons (fTup (fCons (fVar 11) (fCons (fC (.int 40)) fNil))) (fCons (fTup (fCons (fC (.str "hand")) fNil)) fNil)))) fNil)))))))) (fgName 10))
    (fSeq (fIfS (fNot (fB (fCall 2 g__law_same (fCons (fLst (fCons (fCall 1 g_is_rule (fCons (fVar 9) fNil)) (fCons (fCall 1 g_is_rule (fCons (fTup (fCons (fC (.str "race")) (fCons (fC (.int 1)) (fCons (fC (.int 1)) (fCons (fC .non) (fCons (fTup (fCons (fC (.str "on")) fNil)) (fCons (fVar 9) (fCons (fLst fNil) fNil)))))))) fNil)) (fCons (fCall 1 g_is_rule (fCons (fVar 10) fNil)) fNil)))) (fCons (fLst (fCons (fC (.bl true)) (fCons (fC (.bl false)) (fCons (fC (.bl true)) fNil)))) fNil))))) (fRet (fC (.bl false))) fNext)
    (fRet (fAndV (fCall0 g__law_plain_right) (fOp eqD (fCB reprD (fCons (fLst (fCons (fVar 3) (fCons (fVar 4) fNil))) fNil)) (fVar 5))))))))))))))))
def g_law : GF := bodyD N_law 1 (b_law g__law_generator g__law_random g__law_nested (g__law_rule 16) g_is_rule g__law_wrong_races (g__law_same 16) g__law_plain_right)
end K1

set_option maxHeartbeats 2000000
namespace K1
open PySem PySem.Spec PyProof.Rows L2 DL
def isInt : D → Bool
  | .int _ => true
  | _ => false
def isBtw (lo hi : Int) : D → Bool
  | .int i => decide (lo ≤ i) && decide (i ≤ hi)
  | _ => false
def isCount : D → Bool
  | .int i => decide (0 ≤ i)
  | _ => false
def isWord (w : Str) : D → Bool
  | .tup [.str x] => decide (x = w)
  | _ => false
def isScore : D → Bool
  | .tup [a, b] => isCount a && isCount b
  | _ => false
def isRow : D → Bool
  | .tup [.str x, .lst ms] => decide (x = "row") && (decide (1 ≤ ms.length) && decide (ms.length ≤ 8)) && ms.all (isBtw 0 1)
  | _ => false
def isOrder (d : D) : Bool := isWord "on" d || isWord "turns" d || isWord "winner" d || isWord "loser" d || isRow d
def isNums (need lead cap : D) : Bool := isBtw 1 30 need && isBtw 1 3 lead && match cap with
  | .non => true
  | c => match need with
    | .int n => isBtw n 40 c
    | _ => false
def wordIs (d : D) : D → Bool
  | .str x => isWord x d
  | _ => false
section
variable {S : Sto} (hS : S.all coFree = true)
include hS
theorem is_whole_ok {d : D} {n : Nat} (h : fit d n = true) : g_is_whole [d] S = .ok (.bl (isInt d)) S := by
  refine bodyT_ok ?_ hS rfl
  cases d <;> first | (exfalso; cases n <;> simp [fit] at h; done) | rfl
theorem is_between_ok {d : D} {n : Nat} {lo hi : Int} (h : fit d n = true) : g_is_between [d, .int lo, .int hi] S = .ok (.bl (isBtw lo hi d)) S := by
  refine bodyT_ok ?_ hS rfl
  have e := is_whole_ok hS h
  simp only [fC_ap, fVar_ap, fOp_ap, fB_ap, fAnd_ap, fOr_ap, fNot_ap, fAndV_ap, fOrV_ap, fNotV_ap, fIf_ap, fNil_ap, fCons_ap, fTup_ap, fLst_ap, fLstC_ap, fNoPart_ap, fPart_ap, fSl_ap, fNeg_ap, fCB_ap, fIsi_ap, fIsi2_ap, fNext_ap, fSeq_ap, fRet_ap, fRetF_ap, fgName_ap, fgNil_ap, fgCons_ap, fgTup_ap, fgSub_ap, fAsg_ap, fPar_ap, fPar3_ap, fDrop_ap, fApp_ap, fIfS_ap, fiSeq_ap, fiTup_ap, fiEnum_ap, fYes_ap, fCall_ap, fCall0_ap, fChain_ap, fBits_ap, fAddC_ap, fiAny_ap, Res.bind_ok, asB_ok, okO_some, bodyD, asB, iterOf, withLock_none, noErr_ok, wipeE, List.map_cons, List.map_nil, List.length_cons, List.length_nil, List.cons_append, List.nil_append, List.getElem?_cons_zero, List.getElem?_cons_succ, List.set_cons_zero, List.set_cons_succ, if_true, Bool.false_eq_true, if_false, Nat.reduceAdd, Nat.reduceSub, Nat.zero_add, List.replicate, tyD, atI_0, atI_1, lenD_lst, lenD_tup, ixD_tup, ixD_lst, eqD_int, eqD_str, neD_int, neD_str, leD_int, ltD_int, gtD_int, geD_int, addD_int, subD_int, intD_int, gx0, gx1, gx2, gs0, gs2, capN, Nat.zero_le, Nat.reduceLeDiff, Nat.reduceEqDiff, Nat.reduceLT, Bool.not_true, Bool.not_false, Bool.true_and, Bool.false_and, b_is_between, e]
  cases d with
  | int i => 
    simp only [isInt, fC_ap, fVar_ap, fOp_ap, fB_ap, fAnd_ap, fOr_ap, fNot_ap, fAndV_ap, fOrV_ap, fNotV_ap, fIf_ap, fNil_ap, fCons_ap, fTup_ap, fLst_ap, fLstC_ap, fNoPart_ap, fPart_ap, fSl_ap, fNeg_ap, fCB_ap, fIsi_ap, fIsi2_ap, fNext_ap, fSeq_ap, fRet_ap, fRetF_ap, fgName_ap, fgNil_ap, fgCons_ap, fgTup_ap, fgSub_ap, fAsg_ap, fPar_ap, fPar3_ap, fDrop_ap, fApp_ap, fIfS_ap, fiSeq_ap, fiTup_ap, fiEnum_ap, fYes_ap, fCall_ap, fCall0_ap, fChain_ap, fBits_ap, fAddC_ap, fiAny_ap, Res.bind_ok, asB_ok, okO_some, bodyD, asB, iterOf, withLock_none, noErr_ok, wipeE, List.map_cons, List.map_nil, List.length_cons, List.length_nil, List.cons_append, List.nil_append, List.getElem?_cons_zero, List.getElem?_cons_succ, List.set_cons_zero, List.set_cons_succ, if_true, Bool.false_eq_true, if_false, Nat.reduceAdd, Nat.reduceSub, Nat.zero_add, List.replicate, tyD, atI_0, atI_1, lenD_lst, lenD_tup, ixD_tup, ixD_lst, eqD_int, eqD_str, neD_int, neD_str, leD_int, ltD_int, gtD_int, geD_int, addD_int, subD_int, intD_int, gx0, gx1, gx2, gs0, gs2, capN, Nat.zero_le, Nat.reduceLeDiff, Nat.reduceEqDiff, Nat.reduceLT, Bool.not_true, Bool.not_false, Bool.true_and, Bool.false_and, leD, isBtw]
    by_cases c : lo ≤ i <;> simp [c, fC_ap, fVar_ap, fOp_ap, fB_ap, fAnd_ap, fOr_ap, fNot_ap, fAndV_ap, fOrV_ap, fNotV_ap, fIf_ap, fNil_ap, fCons_ap, fTup_ap, fLst_ap, fLstC_ap, fNoPart_ap, fPart_ap, fSl_ap, fNeg_ap, fCB_ap, fIsi_ap, fIsi2_ap, fNext_ap, fSeq_ap, fRet_ap, fRetF_ap, fgName_ap, fgNil_ap, fgCons_ap, fgTup_ap, fgSub_ap, fAsg_ap, fPar_ap, fPar3_ap, fDrop_ap, fApp_ap, fIfS_ap, fiSeq_ap, fiTup_ap, fiEnum_ap, fYes_ap, fCall_ap, fCall0_ap, fChain_ap, fBits_ap, fAddC_ap, fiAny_ap, Res.bind_ok, asB_ok, okO_some, bodyD, asB, iterOf, withLock_none, noErr_ok, wipeE, List.map_cons, List.map_nil, List.length_cons, List.length_nil, List.cons_append, List.nil_append, List.getElem?_cons_zero, List.getElem?_cons_succ, List.set_cons_zero, List.set_cons_succ, if_true, Bool.false_eq_true, if_false, Nat.reduceAdd, Nat.reduceSub, Nat.zero_add, List.replicate, tyD, atI_0, atI_1, lenD_lst, lenD_tup, ixD_tup, ixD_lst, eqD_int, eqD_str, neD_int, neD_str, leD_int, ltD_int, gtD_int, geD_int, addD_int, subD_int, intD_int, gx0, gx1, gx2, gs0, gs2, capN, Nat.zero_le, Nat.reduceLeDiff, Nat.reduceEqDiff, Nat.reduceLT, Bool.not_true, Bool.not_false, Bool.true_and, Bool.false_and]
  | _ => simp only [isInt, fC_ap, fVar_ap, fOp_ap, fB_ap, fAnd_ap, fOr_ap, fNot_ap, fAndV_ap, fOrV_ap, fNotV_ap, fIf_ap, fNil_ap, fCons_ap, fTup_ap, fLst_ap, fLstC_ap, fNoPart_ap, fPart_ap, fSl_ap, fNeg_ap, fCB_ap, fIsi_ap, fIsi2_ap, fNext_ap, fSeq_ap, fRet_ap, fRetF_ap, fgName_ap, fgNil_ap, fgCons_ap, fgTup_ap, fgSub_ap, fAsg_ap, fPar_ap, fPar3_ap, fDrop_ap, fApp_ap, fIfS_ap, fiSeq_ap, fiTup_ap, fiEnum_ap, fYes_ap, fCall_ap, fCall0_ap, fChain_ap, fBits_ap, fAddC_ap, fiAny_ap, Res.bind_ok, asB_ok, okO_some, bodyD, asB, iterOf, withLock_none, noErr_ok, wipeE, List.map_cons, List.map_nil, List.length_cons, List.length_nil, List.cons_append, List.nil_append, List.getElem?_cons_zero, List.getElem?_cons_succ, List.set_cons_zero, List.set_cons_succ, if_true, Bool.false_eq_true, if_false, Nat.reduceAdd, Nat.reduceSub, Nat.zero_add, List.replicate, tyD, atI_0, atI_1, lenD_lst, lenD_tup, ixD_tup, ixD_lst, eqD_int, eqD_str, neD_int, neD_str, leD_int, ltD_int, gtD_int, geD_int, addD_int, subD_int, intD_int, gx0, gx1, gx2, gs0, gs2, capN, Nat.zero_le, Nat.reduceLeDiff, Nat.reduceEqDiff, Nat.reduceLT, Bool.not_true, Bool.not_false, Bool.true_and, Bool.false_and, isBtw]
theorem is_side_ok {d : D} {n : Nat} (h : fit d n = true) : g_is_side [d] S = .ok (.bl (isBtw 0 1 d)) S := by
  refine bodyT_ok ?_ hS rfl
  simp only [fC_ap, fVar_ap, fOp_ap, fB_ap, fAnd_ap, fOr_ap, fNot_ap, fAndV_ap, fOrV_ap, fNotV_ap, fIf_ap, fNil_ap, fCons_ap, fTup_ap, fLst_ap, fLstC_ap, fNoPart_ap, fPart_ap, fSl_ap, fNeg_ap, fCB_ap, fIsi_ap, fIsi2_ap, fNext_ap, fSeq_ap, fRet_ap, fRetF_ap, fgName_ap, fgNil_ap, fgCons_ap, fgTup_ap, fgSub_ap, fAsg_ap, fPar_ap, fPar3_ap, fDrop_ap, fApp_ap, fIfS_ap, fiSeq_ap, fiTup_ap, fiEnum_ap, fYes_ap, fCall_ap, fCall0_ap, fChain_ap, fBits_ap, fAddC_ap, fiAny_ap, Res.bind_ok, asB_ok, okO_some, bodyD, asB, iterOf, withLock_none, noErr_ok, wipeE, List.map_cons, List.map_nil, List.length_cons, List.length_nil, List.cons_append, List.nil_append, List.getElem?_cons_zero, List.getElem?_cons_succ, List.set_cons_zero, List.set_cons_succ, if_true, Bool.false_eq_true, if_false, Nat.reduceAdd, Nat.reduceSub, Nat.zero_add, List.replicate, tyD, atI_0, atI_1, lenD_lst, lenD_tup, ixD_tup, ixD_lst, eqD_int, eqD_str, neD_int, neD_str, leD_int, ltD_int, gtD_int, geD_int, addD_int, subD_int, intD_int, gx0, gx1, gx2, gs0, gs2, capN, Nat.zero_le, Nat.reduceLeDiff, Nat.reduceEqDiff, Nat.reduceLT, Bool.not_true, Bool.not_false, Bool.true_and, Bool.false_and, b_is_side, is_between_ok hS h]
theorem is_count_ok {d : D} {n : Nat} (h : fit d n = true) : g_is_count [d] S = .ok (.bl (isCount d)) S := by
  refine bodyT_ok ?_ hS rfl
  have e := is_whole_ok hS h
  simp only [fC_ap, fVar_ap, fOp_ap, fB_ap, fAnd_ap, fOr_ap, fNot_ap, fAndV_ap, fOrV_ap, fNotV_ap, fIf_ap, fNil_ap, fCons_ap, fTup_ap, fLst_ap, fLstC_ap, fNoPart_ap, fPart_ap, fSl_ap, fNeg_ap, fCB_ap, fIsi_ap, fIsi2_ap, fNext_ap, fSeq_ap, fRet_ap, fRetF_ap, fgName_ap, fgNil_ap, fgCons_ap, fgTup_ap, fgSub_ap, fAsg_ap, fPar_ap, fPar3_ap, fDrop_ap, fApp_ap, fIfS_ap, fiSeq_ap, fiTup_ap, fiEnum_ap, fYes_ap, fCall_ap, fCall0_ap, fChain_ap, fBits_ap, fAddC_ap, fiAny_ap, Res.bind_ok, asB_ok, okO_some, bodyD, asB, iterOf, withLock_none, noErr_ok, wipeE, List.map_cons, List.map_nil, List.length_cons, List.length_nil, List.cons_append, List.nil_append, List.getElem?_cons_zero, List.getElem?_cons_succ, List.set_cons_zero, List.set_cons_succ, if_true, Bool.false_eq_true, if_false, Nat.reduceAdd, Nat.reduceSub, Nat.zero_add, List.replicate, tyD, atI_0, atI_1, lenD_lst, lenD_tup, ixD_tup, ixD_lst, eqD_int, eqD_str, neD_int, neD_str, leD_int, ltD_int, gtD_int, geD_int, addD_int, subD_int, intD_int, gx0, gx1, gx2, gs0, gs2, capN, Nat.zero_le, Nat.reduceLeDiff, Nat.reduceEqDiff, Nat.reduceLT, Bool.not_true, Bool.not_false, Bool.true_and, Bool.false_and, b_is_count, e]
  cases d <;> simp only [isInt, fC_ap, fVar_ap, fOp_ap, fB_ap, fAnd_ap, fOr_ap, fNot_ap, fAndV_ap, fOrV_ap, fNotV_ap, fIf_ap, fNil_ap, fCons_ap, fTup_ap, fLst_ap, fLstC_ap, fNoPart_ap, fPart_ap, fSl_ap, fNeg_ap, fCB_ap, fIsi_ap, fIsi2_ap, fNext_ap, fSeq_ap, fRet_ap, fRetF_ap, fgName_ap, fgNil_ap, fgCons_ap, fgTup_ap, fgSub_ap, fAsg_ap, fPar_ap, fPar3_ap, fDrop_ap, fApp_ap, fIfS_ap, fiSeq_ap, fiTup_ap, fiEnum_ap, fYes_ap, fCall_ap, fCall0_ap, fChain_ap, fBits_ap, fAddC_ap, fiAny_ap, Res.bind_ok, asB_ok, okO_some, bodyD, asB, iterOf, withLock_none, noErr_ok, wipeE, List.map_cons, List.map_nil, List.length_cons, List.length_nil, List.cons_append, List.nil_append, List.getElem?_cons_zero, List.getElem?_cons_succ, List.set_cons_zero, List.set_cons_succ, if_true, Bool.false_eq_true, if_false, Nat.reduceAdd, Nat.reduceSub, Nat.zero_add, List.replicate, tyD, atI_0, atI_1, lenD_lst, lenD_tup, ixD_tup, ixD_lst, eqD_int, eqD_str, neD_int, neD_str, leD_int, ltD_int, gtD_int, geD_int, addD_int, subD_int, intD_int, gx0, gx1, gx2, gs0, gs2, capN, Nat.zero_le, Nat.reduceLeDiff, Nat.reduceEqDiff, Nat.reduceLT, Bool.not_true, Bool.not_false, Bool.true_and, Bool.false_and, geD, isCount]
theorem is_word_ok {d : D} {n : Nat} {w : Str} (h : fit d n = true) : g_is_word [d, .str w] S = .ok (.bl (isWord w d)) S := by
  refine bodyT_ok ?_ hS rfl
  simp only [fC_ap, fVar_ap, fOp_ap, fB_ap, fAnd_ap, fOr_ap, fNot_ap, fAndV_ap, fOrV_ap, fNotV_ap, fIf_ap, fNil_ap, fCons_ap, fTup_ap, fLst_ap, fLstC_ap, fNoPart_ap, fPart_ap, fSl_ap, fNeg_ap, fCB_ap, fIsi_ap, fIsi2_ap, fNext_ap, fSeq_ap, fRet_ap, fRetF_ap, fgName_ap, fgNil_ap, fgCons_ap, fgTup_ap, fgSub_ap, fAsg_ap, fPar_ap, fPar3_ap, fDrop_ap, fApp_ap, fIfS_ap, fiSeq_ap, fiTup_ap, fiEnum_ap, fYes_ap, fCall_ap, fCall0_ap, fChain_ap, fBits_ap, fAddC_ap, fiAny_ap, Res.bind_ok, asB_ok, okO_some, bodyD, asB, iterOf, withLock_none, noErr_ok, wipeE, List.map_cons, List.map_nil, List.length_cons, List.length_nil, List.cons_append, List.nil_append, List.getElem?_cons_zero, List.getElem?_cons_succ, List.set_cons_zero, List.set_cons_succ, if_true, Bool.false_eq_true, if_false, Nat.reduceAdd, Nat.reduceSub, Nat.zero_add, List.replicate, tyD, atI_0, atI_1, lenD_lst, lenD_tup, ixD_tup, ixD_lst, eqD_int, eqD_str, neD_int, neD_str, leD_int, ltD_int, gtD_int, geD_int, addD_int, subD_int, intD_int, gx0, gx1, gx2, gs0, gs2, capN, Nat.zero_le, Nat.reduceLeDiff, Nat.reduceEqDiff, Nat.reduceLT, Bool.not_true, Bool.not_false, Bool.true_and, Bool.false_and, b_is_word]
  cases d with
  | tup xs =>
    match xs, h with
    | [], _ => rfl
    | [x], h =>
      cases x <;> first | rfl | (exfalso; rcases n with _ | _ | n <;> simp [fit, fits] at h)
    | x :: y :: r, _ =>
      have e : ¬ ((r.length : Int) + 1 + 1 = 1) := by omega
      simp [fC_ap, fVar_ap, fOp_ap, fB_ap, fAnd_ap, fOr_ap, fNot_ap, fAndV_ap, fOrV_ap, fNotV_ap, fIf_ap, fNil_ap, fCons_ap, fTup_ap, fLst_ap, fLstC_ap, fNoPart_ap, fPart_ap, fSl_ap, fNeg_ap, fCB_ap, fIsi_ap, fIsi2_ap, fNext_ap, fSeq_ap, fRet_ap, fRetF_ap, fgName_ap, fgNil_ap, fgCons_ap, fgTup_ap, fgSub_ap, fAsg_ap, fPar_ap, fPar3_ap, fDrop_ap, fApp_ap, fIfS_ap, fiSeq_ap, fiTup_ap, fiEnum_ap, fYes_ap, fCall_ap, fCall0_ap, fChain_ap, fBits_ap, fAddC_ap, fiAny_ap, Res.bind_ok, asB_ok, okO_some, bodyD, asB, iterOf, withLock_none, noErr_ok, wipeE, List.map_cons, List.map_nil, List.length_cons, List.length_nil, List.cons_append, List.nil_append, List.getElem?_cons_zero, List.getElem?_cons_succ, List.set_cons_zero, List.set_cons_succ, if_true, Bool.false_eq_true, if_false, Nat.reduceAdd, Nat.reduceSub, Nat.zero_add, List.replicate, tyD, atI_0, atI_1, lenD_lst, lenD_tup, ixD_tup, ixD_lst, eqD_int, eqD_str, neD_int, neD_str, leD_int, ltD_int, gtD_int, geD_int, addD_int, subD_int, intD_int, gx0, gx1, gx2, gs0, gs2, capN, Nat.zero_le, Nat.reduceLeDiff, Nat.reduceEqDiff, Nat.reduceLT, Bool.not_true, Bool.not_false, Bool.true_and, Bool.false_and, lenD, seqOf, eqD, eqB, isWord, e]
  | _ => first | (exfalso; cases n <;> simp [fit] at h; done) | rfl
theorem is_score_ok {d : D} {n : Nat} (h : fit d n = true) : g_is_score [d] S = .ok (.bl (isScore d)) S := by
  refine bodyT_ok ?_ hS rfl
  simp only [fC_ap, fVar_ap, fOp_ap, fB_ap, fAnd_ap, fOr_ap, fNot_ap, fAndV_ap, fOrV_ap, fNotV_ap, fIf_ap, fNil_ap, fCons_ap, fTup_ap, fLst_ap, fLstC_ap, fNoPart_ap, fPart_ap, fSl_ap, fNeg_ap, fCB_ap, fIsi_ap, fIsi2_ap, fNext_ap, fSeq_ap, fRet_ap, fRetF_ap, fgName_ap, fgNil_ap, fgCons_ap, fgTup_ap, fgSub_ap, fAsg_ap, fPar_ap, fPar3_ap, fDrop_ap, fApp_ap, fIfS_ap, fiSeq_ap, fiTup_ap, fiEnum_ap, fYes_ap, fCall_ap, fCall0_ap, fChain_ap, fBits_ap, fAddC_ap, fiAny_ap, Res.bind_ok, asB_ok, okO_some, bodyD, asB, iterOf, withLock_none, noErr_ok, wipeE, List.map_cons, List.map_nil, List.length_cons, List.length_nil, List.cons_append, List.nil_append, List.getElem?_cons_zero, List.getElem?_cons_succ, List.set_cons_zero, List.set_cons_succ, if_true, Bool.false_eq_true, if_false, Nat.reduceAdd, Nat.reduceSub, Nat.zero_add, List.replicate, tyD, atI_0, atI_1, lenD_lst, lenD_tup, ixD_tup, ixD_lst, eqD_int, eqD_str, neD_int, neD_str, leD_int, ltD_int, gtD_int, geD_int, addD_int, subD_int, intD_int, gx0, gx1, gx2, gs0, gs2, capN, Nat.zero_le, Nat.reduceLeDiff, Nat.reduceEqDiff, Nat.reduceLT, Bool.not_true, Bool.not_false, Bool.true_and, Bool.false_and, b_is_score]
  cases d with
  | tup xs =>
    cases n with
    | zero => simp [fit] at h
    | succ n =>
      match xs, h with
      | [], _ => rfl
      | [x], _ => rfl
      | [x, y], h =>
        simp only [fit, fits, Bool.and_eq_true] at h
        have e1 := is_count_ok hS h.1
        have e2 := is_count_ok hS h.2.1
        simp only [fC_ap, fVar_ap, fOp_ap, fB_ap, fAnd_ap, fOr_ap, fNot_ap, fAndV_ap, fOrV_ap, fNotV_ap, fIf_ap, fNil_ap, fCons_ap, fTup_ap, fLst_ap, fLstC_ap, fNoPart_ap, fPart_ap, fSl_ap, fNeg_ap, fCB_ap, fIsi_ap, fIsi2_ap, fNext_ap, fSeq_ap, fRet_ap, fRetF_ap, fgName_ap, fgNil_ap, fgCons_ap, fgTup_ap, fgSub_ap, fAsg_ap, fPar_ap, fPar3_ap, fDrop_ap, fApp_ap, fIfS_ap, fiSeq_ap, fiTup_ap, fiEnum_ap, fYes_ap, fCall_ap, fCall0_ap, fChain_ap, fBits_ap, fAddC_ap, fiAny_ap, Res.bind_ok, asB_ok, okO_some, bodyD, asB, iterOf, withLock_none, noErr_ok, wipeE, List.map_cons, List.map_nil, List.length_cons, List.length_nil, List.cons_append, List.nil_append, List.getElem?_cons_zero, List.getElem?_cons_succ, List.set_cons_zero, List.set_cons_succ, if_true, Bool.false_eq_true, if_false, Nat.reduceAdd, Nat.reduceSub, Nat.zero_add, List.replicate, tyD, atI_0, atI_1, lenD_lst, lenD_tup, ixD_tup, ixD_lst, eqD_int, eqD_str, neD_int, neD_str, leD_int, ltD_int, gtD_int, geD_int, addD_int, subD_int, intD_int, gx0, gx1, gx2, gs0, gs2, capN, Nat.zero_le, Nat.reduceLeDiff, Nat.reduceEqDiff, Nat.reduceLT, Bool.not_true, Bool.not_false, Bool.true_and, Bool.false_and, isScore, e1, e2, isiB]
        cases isCount x <;> simp [fC_ap, fVar_ap, fOp_ap, fB_ap, fAnd_ap, fOr_ap, fNot_ap, fAndV_ap, fOrV_ap, fNotV_ap, fIf_ap, fNil_ap, fCons_ap, fTup_ap, fLst_ap, fLstC_ap, fNoPart_ap, fPart_ap, fSl_ap, fNeg_ap, fCB_ap, fIsi_ap, fIsi2_ap, fNext_ap, fSeq_ap, fRet_ap, fRetF_ap, fgName_ap, fgNil_ap, fgCons_ap, fgTup_ap, fgSub_ap, fAsg_ap, fPar_ap, fPar3_ap, fDrop_ap, fApp_ap, fIfS_ap, fiSeq_ap, fiTup_ap, fiEnum_ap, fYes_ap, fCall_ap, fCall0_ap, fChain_ap, fBits_ap, fAddC_ap, fiAny_ap, Res.bind_ok, asB_ok, okO_some, bodyD, asB, iterOf, withLock_none, noErr_ok, wipeE, List.map_cons, List.map_nil, List.length_cons, List.length_nil, List.cons_append, List.nil_append, List.getElem?_cons_zero, List.getElem?_cons_succ, List.set_cons_zero, List.set_cons_succ, if_true, Bool.false_eq_true, if_false, Nat.reduceAdd, Nat.reduceSub, Nat.zero_add, List.replicate, tyD, atI_0, atI_1, lenD_lst, lenD_tup, ixD_tup, ixD_lst, eqD_int, eqD_str, neD_int, neD_str, leD_int, ltD_int, gtD_int, geD_int, addD_int, subD_int, intD_int, gx0, gx1, gx2, gs0, gs2, capN, Nat.zero_le, Nat.reduceLeDiff, Nat.reduceEqDiff, Nat.reduceLT, Bool.not_true, Bool.not_false, Bool.true_and, Bool.false_and, e2]
      | x :: y :: z :: r, _ =>
        have e : ¬ ((r.length : Int) + 1 + 1 + 1 = 2) := by omega
        simp [fC_ap, fVar_ap, fOp_ap, fB_ap, fAnd_ap, fOr_ap, fNot_ap, fAndV_ap, fOrV_ap, fNotV_ap, fIf_ap, fNil_ap, fCons_ap, fTup_ap, fLst_ap, fLstC_ap, fNoPart_ap, fPart_ap, fSl_ap, fNeg_ap, fCB_ap, fIsi_ap, fIsi2_ap, fNext_ap, fSeq_ap, fRet_ap, fRetF_ap, fgName_ap, fgNil_ap, fgCons_ap, fgTup_ap, fgSub_ap, fAsg_ap, fPar_ap, fPar3_ap, fDrop_ap, fApp_ap, fIfS_ap, fiSeq_ap, fiTup_ap, fiEnum_ap, fYes_ap, fCall_ap, fCall0_ap, fChain_ap, fBits_ap, fAddC_ap, fiAny_ap, Res.bind_ok, asB_ok, okO_some, bodyD, asB, iterOf, withLock_none, noErr_ok, wipeE, List.map_cons, List.map_nil, List.length_cons, List.length_nil, List.cons_append, List.nil_append, List.getElem?_cons_zero, List.getElem?_cons_succ, List.set_cons_zero, List.set_cons_succ, if_true, Bool.false_eq_true, if_false, Nat.reduceAdd, Nat.reduceSub, Nat.zero_add, List.replicate, tyD, atI_0, atI_1, lenD_lst, lenD_tup, ixD_tup, ixD_lst, eqD_int, eqD_str, neD_int, neD_str, leD_int, ltD_int, gtD_int, geD_int, addD_int, subD_int, intD_int, gx0, gx1, gx2, gs0, gs2, capN, Nat.zero_le, Nat.reduceLeDiff, Nat.reduceEqDiff, Nat.reduceLT, Bool.not_true, Bool.not_false, Bool.true_and, Bool.false_and, isScore, e, isiB]
  | _ => first | (exfalso; cases n <;> simp [fit] at h; done) | rfl
theorem are_numbers_ok {a b c : D} {n : Nat} (h1 : fit a n = true) (h2 : fit b n = true) (h3 : fit c n = true) : g_are_numbers_of_race [a, b, c] S = .ok (.bl (isNums a b c)) S := by
  refine bodyT_ok ?_ hS rfl
  have e1 := is_between_ok (lo := 1) (hi := 30) hS h1
  have e2 := is_between_ok (lo := 1) (hi := 3) hS h2
  simp only [fC_ap, fVar_ap, fOp_ap, fB_ap, fAnd_ap, fOr_ap, fNot_ap, fAndV_ap, fOrV_ap, fNotV_ap, fIf_ap, fNil_ap, fCons_ap, fTup_ap, fLst_ap, fLstC_ap, fNoPart_ap, fPart_ap, fSl_ap, fNeg_ap, fCB_ap, fIsi_ap, fIsi2_ap, fNext_ap, fSeq_ap, fRet_ap, fRetF_ap, fgName_ap, fgNil_ap, fgCons_ap, fgTup_ap, fgSub_ap, fAsg_ap, fPar_ap, fPar3_ap, fDrop_ap, fApp_ap, fIfS_ap, fiSeq_ap, fiTup_ap, fiEnum_ap, fYes_ap, fCall_ap, fCall0_ap, fChain_ap, fBits_ap, fAddC_ap, fiAny_ap, Res.bind_ok, asB_ok, okO_some, bodyD, asB, iterOf, withLock_none, noErr_ok, wipeE, List.map_cons, List.map_nil, List.length_cons, List.length_nil, List.cons_append, List.nil_append, List.getElem?_cons_zero, List.getElem?_cons_succ, List.set_cons_zero, List.set_cons_succ, if_true, Bool.false_eq_true, if_false, Nat.reduceAdd, Nat.reduceSub, Nat.zero_add, List.replicate, tyD, atI_0, atI_1, lenD_lst, lenD_tup, ixD_tup, ixD_lst, eqD_int, eqD_str, neD_int, neD_str, leD_int, ltD_int, gtD_int, geD_int, addD_int, subD_int, intD_int, gx0, gx1, gx2, gs0, gs2, capN, Nat.zero_le, Nat.reduceLeDiff, Nat.reduceEqDiff, Nat.reduceLT, Bool.not_true, Bool.not_false, Bool.true_and, Bool.false_and, b_are_numbers_of_race, e1, e2]
  cases q1 : isBtw 1 30 a with
  | false => simp [fC_ap, fVar_ap, fOp_ap, fB_ap, fAnd_ap, fOr_ap, fNot_ap, fAndV_ap, fOrV_ap, fNotV_ap, fIf_ap, fNil_ap, fCons_ap, fTup_ap, fLst_ap, fLstC_ap, fNoPart_ap, fPart_ap, fSl_ap, fNeg_ap, fCB_ap, fIsi_ap, fIsi2_ap, fNext_ap, fSeq_ap, fRet_ap, fRetF_ap, fgName_ap, fgNil_ap, fgCons_ap, fgTup_ap, fgSub_ap, fAsg_ap, fPar_ap, fPar3_ap, fDrop_ap, fApp_ap, fIfS_ap, fiSeq_ap, fiTup_ap, fiEnum_ap, fYes_ap, fCall_ap, fCall0_ap, fChain_ap, fBits_ap, fAddC_ap, fiAny_ap, Res.bind_ok, asB_ok, okO_some, bodyD, asB, iterOf, withLock_none, noErr_ok, wipeE, List.map_cons, List.map_nil, List.length_cons, List.length_nil, List.cons_append, List.nil_append, List.getElem?_cons_zero, List.getElem?_cons_succ, List.set_cons_zero, List.set_cons_succ, if_true, Bool.false_eq_true, if_false, Nat.reduceAdd, Nat.reduceSub, Nat.zero_add, List.replicate, tyD, atI_0, atI_1, lenD_lst, lenD_tup, ixD_tup, ixD_lst, eqD_int, eqD_str, neD_int, neD_str, leD_int, ltD_int, gtD_int, geD_int, addD_int, subD_int, intD_int, gx0, gx1, gx2, gs0, gs2, capN, Nat.zero_le, Nat.reduceLeDiff, Nat.reduceEqDiff, Nat.reduceLT, Bool.not_true, Bool.not_false, Bool.true_and, Bool.false_and, isNums, q1]
  | true =>
    cases q2 : isBtw 1 3 b with
    | false => simp [fC_ap, fVar_ap, fOp_ap, fB_ap, fAnd_ap, fOr_ap, fNot_ap, fAndV_ap, fOrV_ap, fNotV_ap, fIf_ap, fNil_ap, fCons_ap, fTup_ap, fLst_ap, fLstC_ap, fNoPart_ap, fPart_ap, fSl_ap, fNeg_ap, fCB_ap, fIsi_ap, fIsi2_ap, fNext_ap, fSeq_ap, fRet_ap, fRetF_ap, fgName_ap, fgNil_ap, fgCons_ap, fgTup_ap, fgSub_ap, fAsg_ap, fPar_ap, fPar3_ap, fDrop_ap, fApp_ap, fIfS_ap, fiSeq_ap, fiTup_ap, fiEnum_ap, fYes_ap, fCall_ap, fCall0_ap, fChain_ap, fBits_ap, fAddC_ap, fiAny_ap, Res.bind_ok, asB_ok, okO_some, bodyD, asB, iterOf, withLock_none, noErr_ok, wipeE, List.map_cons, List.map_nil, List.length_cons, List.length_nil, List.cons_append, List.nil_append, List.getElem?_cons_zero, List.getElem?_cons_succ, List.set_cons_zero, List.set_cons_succ, if_true, Bool.false_eq_true, if_false, Nat.reduceAdd, Nat.reduceSub, Nat.zero_add, List.replicate, tyD, atI_0, atI_1, lenD_lst, lenD_tup, ixD_tup, ixD_lst, eqD_int, eqD_str, neD_int, neD_str, leD_int, ltD_int, gtD_int, geD_int, addD_int, subD_int, intD_int, gx0, gx1, gx2, gs0, gs2, capN, Nat.zero_le, Nat.reduceLeDiff, Nat.reduceEqDiff, Nat.reduceLT, Bool.not_true, Bool.not_false, Bool.true_and, Bool.false_and, isNums, q1, q2, e2]
    | true =>
      obtain ⟨i, rfl⟩ : ∃ i, a = .int i := by
        cases a with
        | int i => exact ⟨i, rfl⟩
        | _ => simp [isBtw] at q1
      have e3 := is_between_ok (lo := i) (hi := 40) hS h3
      cases c <;> simp [fC_ap, fVar_ap, fOp_ap, fB_ap, fAnd_ap, fOr_ap, fNot_ap, fAndV_ap, fOrV_ap, fNotV_ap, fIf_ap, fNil_ap, fCons_ap, fTup_ap, fLst_ap, fLstC_ap, fNoPart_ap, fPart_ap, fSl_ap, fNeg_ap, fCB_ap, fIsi_ap, fIsi2_ap, fNext_ap, fSeq_ap, fRet_ap, fRetF_ap, fgName_ap, fgNil_ap, fgCons_ap, fgTup_ap, fgSub_ap, fAsg_ap, fPar_ap, fPar3_ap, fDrop_ap, fApp_ap, fIfS_ap, fiSeq_ap, fiTup_ap, fiEnum_ap, fYes_ap, fCall_ap, fCall0_ap, fChain_ap, fBits_ap, fAddC_ap, fiAny_ap, Res.bind_ok, asB_ok, okO_some, bodyD, asB, iterOf, withLock_none, noErr_ok, wipeE, List.map_cons, List.map_nil, List.length_cons, List.length_nil, List.cons_append, List.nil_append, List.getElem?_cons_zero, List.getElem?_cons_succ, List.set_cons_zero, List.set_cons_succ, if_true, Bool.false_eq_true, if_false, Nat.reduceAdd, Nat.reduceSub, Nat.zero_add, List.replicate, tyD, atI_0, atI_1, lenD_lst, lenD_tup, ixD_tup, ixD_lst, eqD_int, eqD_str, neD_int, neD_str, leD_int, ltD_int, gtD_int, geD_int, addD_int, subD_int, intD_int, gx0, gx1, gx2, gs0, gs2, capN, Nat.zero_le, Nat.reduceLeDiff, Nat.reduceEqDiff, Nat.reduceLT, Bool.not_true, Bool.not_false, Bool.true_and, Bool.false_and, isNums, q1, q2, e2, e3, isD, isNon]
theorem is_order_ok {d : D} {n : Nat} (h : fit d n = true) (hn : n ≤ 60) : g_is_order [d] S = .ok (.bl (isOrder d)) S := by
  refine bodyT_ok ?_ hS rfl
  have l1 := fLc_pure (vs := [1]) (fi := fiAny (fC c_ORDERS)) (g := fgName 1) (c := fB (fCall 2 g_is_word (fCons (fVar 0) (fCons (fVar 1) fNil)))) (el := fVar 1) (ρ := [some d, none, none]) (S := S) (xs := [.str "on", .str "turns", .str "winner", .str "loser"])
      (wordIs d) id rfl (by decide) (fun w m => by
          refine ⟨[some d, some w, none], rfl, ?_, fun _ => rfl⟩
          obtain ⟨x, rfl⟩ : ∃ x, w = .str x := by
            simp only [List.mem_cons, List.not_mem_nil, or_false] at m
            rcases m with rfl | rfl | rfl | rfl <;> exact ⟨_, rfl⟩
          simp only [fC_ap, fVar_ap, fOp_ap, fB_ap, fAnd_ap, fOr_ap, fNot_ap, fAndV_ap, fOrV_ap, fNotV_ap, fIf_ap, fNil_ap, fCons_ap, fTup_ap, fLst_ap, fLstC_ap, fNoPart_ap, fPart_ap, fSl_ap, fNeg_ap, fCB_ap, fIsi_ap, fIsi2_ap, fNext_ap, fSeq_ap, fRet_ap, fRetF_ap, fgName_ap, fgNil_ap, fgCons_ap, fgTup_ap, fgSub_ap, fAsg_ap, fPar_ap, fPar3_ap, fDrop_ap, fApp_ap, fIfS_ap, fiSeq_ap, fiTup_ap, fiEnum_ap, fYes_ap, fCall_ap, fCall0_ap, fChain_ap, fBits_ap, fAddC_ap, fiAny_ap, Res.bind_ok, asB_ok, okO_some, bodyD, asB, iterOf, withLock_none, noErr_ok, wipeE, List.map_cons, List.map_nil, List.length_cons, List.length_nil, List.cons_append, List.nil_append, List.getElem?_cons_zero, List.getElem?_cons_succ, List.set_cons_zero, List.set_cons_succ, if_true, Bool.false_eq_true, if_false, Nat.reduceAdd, Nat.reduceSub, Nat.zero_add, List.replicate, tyD, atI_0, atI_1, lenD_lst, lenD_tup, ixD_tup, ixD_lst, eqD_int, eqD_str, neD_int, neD_str, leD_int, ltD_int, gtD_int, geD_int, addD_int, subD_int, intD_int, gx0, gx1, gx2, gs0, gs2, capN, Nat.zero_le, Nat.reduceLeDiff, Nat.reduceEqDiff, Nat.reduceLT, Bool.not_true, Bool.not_false, Bool.true_and, Bool.false_and, is_word_ok hS h, wordIs])
  rw [List.map_id] at l1
  have l2 : neD (.lst (([.str "on", .str "turns", .str "winner", .str "loser"] : List D).filter (wordIs d))) (.lst []) S = some (.bl (isWord "on" d || isWord "turns" d || isWord "winner" d || isWord "loser" d)) := by
    rw [neD_nil (n := 0) (fits_filter _ (by decide +kernel)) (by decide), isEmpty_filter]
    simp only [List.all_cons, List.all_nil, wordIs]
    cases isWord "on" d <;> cases isWord "turns" d <;> cases isWord "winner" d <;> cases isWord "loser" d <;> rfl
  simp only [fC_ap, fVar_ap, fOp_ap, fB_ap, fAnd_ap, fOr_ap, fNot_ap, fAndV_ap, fOrV_ap, fNotV_ap, fIf_ap, fNil_ap, fCons_ap, fTup_ap, fLst_ap, fLstC_ap, fNoPart_ap, fPart_ap, fSl_ap, fNeg_ap, fCB_ap, fIsi_ap, fIsi2_ap, fNext_ap, fSeq_ap, fRet_ap, fRetF_ap, fgName_ap, fgNil_ap, fgCons_ap, fgTup_ap, fgSub_ap, fAsg_ap, fPar_ap, fPar3_ap, fDrop_ap, fApp_ap, fIfS_ap, fiSeq_ap, fiTup_ap, fiEnum_ap, fYes_ap, fCall_ap, fCall0_ap, fChain_ap, fBits_ap, fAddC_ap, fiAny_ap, Res.bind_ok, asB_ok, okO_some, bodyD, asB, iterOf, withLock_none, noErr_ok, wipeE, List.map_cons, List.map_nil, List.length_cons, List.length_nil, List.cons_append, List.nil_append, List.getElem?_cons_zero, List.getElem?_cons_succ, List.set_cons_zero, List.set_cons_succ, if_true, Bool.false_eq_true, if_false, Nat.reduceAdd, Nat.reduceSub, Nat.zero_add, List.replicate, tyD, atI_0, atI_1, lenD_lst, lenD_tup, ixD_tup, ixD_lst, eqD_int, eqD_str, neD_int, neD_str, leD_int, ltD_int, gtD_int, geD_int, addD_int, subD_int, intD_int, gx0, gx1, gx2, gs0, gs2, capN, Nat.zero_le, Nat.reduceLeDiff, Nat.reduceEqDiff, Nat.reduceLT, Bool.not_true, Bool.not_false, Bool.true_and, Bool.false_and, b_is_order, l1, l2]
  cases q : (isWord "on" d || isWord "turns" d || isWord "winner" d || isWord "loser" d) with
  | true => simp [fC_ap, fVar_ap, fOp_ap, fB_ap, fAnd_ap, fOr_ap, fNot_ap, fAndV_ap, fOrV_ap, fNotV_ap, fIf_ap, fNil_ap, fCons_ap, fTup_ap, fLst_ap, fLstC_ap, fNoPart_ap, fPart_ap, fSl_ap, fNeg_ap, fCB_ap, fIsi_ap, fIsi2_ap, fNext_ap, fSeq_ap, fRet_ap, fRetF_ap, fgName_ap, fgNil_ap, fgCons_ap, fgTup_ap, fgSub_ap, fAsg_ap, fPar_ap, fPar3_ap, fDrop_ap, fApp_ap, fIfS_ap, fiSeq_ap, fiTup_ap, fiEnum_ap, fYes_ap, fCall_ap, fCall0_ap, fChain_ap, fBits_ap, fAddC_ap, fiAny_ap, Res.bind_ok, asB_ok, okO_some, bodyD, asB, iterOf, withLock_none, noErr_ok, wipeE, List.map_cons, List.map_nil, List.length_cons, List.length_nil, List.cons_append, List.nil_append, List.getElem?_cons_zero, List.getElem?_cons_succ, List.set_cons_zero, List.set_cons_succ, if_true, Bool.false_eq_true, if_false, Nat.reduceAdd, Nat.reduceSub, Nat.zero_add, List.replicate, tyD, atI_0, atI_1, lenD_lst, lenD_tup, ixD_tup, ixD_lst, eqD_int, eqD_str, neD_int, neD_str, leD_int, ltD_int, gtD_int, geD_int, addD_int, subD_int, intD_int, gx0, gx1, gx2, gs0, gs2, capN, Nat.zero_le, Nat.reduceLeDiff, Nat.reduceEqDiff, Nat.reduceLT, Bool.not_true, Bool.not_false, Bool.true_and, Bool.false_and, isOrder, q]
  | false =>
    have ei : isOrder d = isRow d := by simp only [isOrder, q, Bool.false_or]
    rw [ei]
    clear ei l1 l2 q
    simp only [fC_ap, fVar_ap, fOp_ap, fB_ap, fAnd_ap, fOr_ap, fNot_ap, fAndV_ap, fOrV_ap, fNotV_ap, fIf_ap, fNil_ap, fCons_ap, fTup_ap, fLst_ap, fLstC_ap, fNoPart_ap, fPart_ap, fSl_ap, fNeg_ap, fCB_ap, fIsi_ap, fIsi2_ap, fNext_ap, fSeq_ap, fRet_ap, fRetF_ap, fgName_ap, fgNil_ap, fgCons_ap, fgTup_ap, fgSub_ap, fAsg_ap, fPar_ap, fPar3_ap, fDrop_ap, fApp_ap, fIfS_ap, fiSeq_ap, fiTup_ap, fiEnum_ap, fYes_ap, fCall_ap, fCall0_ap, fChain_ap, fBits_ap, fAddC_ap, fiAny_ap, Res.bind_ok, asB_ok, okO_some, bodyD, asB, iterOf, withLock_none, noErr_ok, wipeE, List.map_cons, List.map_nil, List.length_cons, List.length_nil, List.cons_append, List.nil_append, List.getElem?_cons_zero, List.getElem?_cons_succ, List.set_cons_zero, List.set_cons_succ, if_true, Bool.false_eq_true, if_false, Nat.reduceAdd, Nat.reduceSub, Nat.zero_add, List.replicate, tyD, atI_0, atI_1, lenD_lst, lenD_tup, ixD_tup, ixD_lst, eqD_int, eqD_str, neD_int, neD_str, leD_int, ltD_int, gtD_int, geD_int, addD_int, subD_int, intD_int, gx0, gx1, gx2, gs0, gs2, capN, Nat.zero_le, Nat.reduceLeDiff, Nat.reduceEqDiff, Nat.reduceLT, Bool.not_true, Bool.not_false, Bool.true_and, Bool.false_and]
    cases d with
    | tup xs =>
      cases n with
      | zero => simp [fit] at h
      | succ n =>
        match xs, h with
        | [], _ => rfl
        | [x], _ => cases x <;> rfl
        | [x, y], h =>
          simp only [fit, fits, Bool.and_eq_true] at h
          obtain ⟨h1, h2, -⟩ := h
          cases x with
          | str w =>
            by_cases ew : w = "row"
            · subst ew
              cases y with
              | lst ms =>
                cases n with
                | zero => simp [fit] at h2
                | succ n =>
                  simp only [fit] at h2
                  by_cases c1 : 1 ≤ ms.length
                  · by_cases c2 : ms.length ≤ 8
                    · have l3 := fLc_pure (vs := [2]) (fi := fiAny (fOp ixD (fVar 0) (fC (.int 1)))) (g := fgName 2) (c := fNot (fB (fCall 1 g_is_side (fCons (fVar 2) fNil)))) (el := fVar 2) (ρ := [some (.tup [.str "row", .lst ms]), none, none]) (S := S) (xs := ms)
                        (fun m => !isBtw 0 1 m) id (by simp only [fC_ap, fVar_ap, fOp_ap, fB_ap, fAnd_ap, fOr_ap, fNot_ap, fAndV_ap, fOrV_ap, fNotV_ap, fIf_ap, fNil_ap, fCons_ap, fTup_ap, fLst_ap, fLstC_ap, fNoPart_ap, fPart_ap, fSl_ap, fNeg_ap, fCB_ap, fIsi_ap, fIsi2_ap, fNext_ap, fSeq_ap, fRet_ap, fRetF_ap, fgName_ap, fgNil_ap, fgCons_ap, fgTup_ap, fgSub_ap, fAsg_ap, fPar_ap, fPar3_ap, fDrop_ap, fApp_ap, fIfS_ap, fiSeq_ap, fiTup_ap, fiEnum_ap, fYes_ap, fCall_ap, fCall0_ap, fChain_ap, fBits_ap, fAddC_ap, fiAny_ap, Res.bind_ok, asB_ok, okO_some, bodyD, asB, iterOf, withLock_none, noErr_ok, wipeE, List.map_cons, List.map_nil, List.length_cons, List.length_nil, List.cons_append, List.nil_append, List.getElem?_cons_zero, List.getElem?_cons_succ, List.set_cons_zero, List.set_cons_succ, if_true, Bool.false_eq_true, if_false, Nat.reduceAdd, Nat.reduceSub, Nat.zero_add, List.replicate, tyD, atI_0, atI_1, lenD_lst, lenD_tup, ixD_tup, ixD_lst, eqD_int, eqD_str, neD_int, neD_str, leD_int, ltD_int, gtD_int, geD_int, addD_int, subD_int, intD_int, gx0, gx1, gx2, gs0, gs2, capN, Nat.zero_le, Nat.reduceLeDiff, Nat.reduceEqDiff, Nat.reduceLT, Bool.not_true, Bool.not_false, Bool.true_and, Bool.false_and]) (by show ms.length < 10000000; omega) (fun m hm => by
                          refine ⟨[some (.tup [.str "row", .lst ms]), none, some m], rfl, ?_, fun _ => rfl⟩
                          simp only [fC_ap, fVar_ap, fOp_ap, fB_ap, fAnd_ap, fOr_ap, fNot_ap, fAndV_ap, fOrV_ap, fNotV_ap, fIf_ap, fNil_ap, fCons_ap, fTup_ap, fLst_ap, fLstC_ap, fNoPart_ap, fPart_ap, fSl_ap, fNeg_ap, fCB_ap, fIsi_ap, fIsi2_ap, fNext_ap, fSeq_ap, fRet_ap, fRetF_ap, fgName_ap, fgNil_ap, fgCons_ap, fgTup_ap, fgSub_ap, fAsg_ap, fPar_ap, fPar3_ap, fDrop_ap, fApp_ap, fIfS_ap, fiSeq_ap, fiTup_ap, fiEnum_ap, fYes_ap, fCall_ap, fCall0_ap, fChain_ap, fBits_ap, fAddC_ap, fiAny_ap, Res.bind_ok, asB_ok, okO_some, bodyD, asB, iterOf, withLock_none, noErr_ok, wipeE, List.map_cons, List.map_nil, List.length_cons, List.length_nil, List.cons_append, List.nil_append, List.getElem?_cons_zero, List.getElem?_cons_succ, List.set_cons_zero, List.set_cons_succ, if_true, Bool.false_eq_true, if_false, Nat.reduceAdd, Nat.reduceSub, Nat.zero_add, List.replicate, tyD, atI_0, atI_1, lenD_lst, lenD_tup, ixD_tup, ixD_lst, eqD_int, eqD_str, neD_int, neD_str, leD_int, ltD_int, gtD_int, geD_int, addD_int, subD_int, intD_int, gx0, gx1, gx2, gs0, gs2, capN, Nat.zero_le, Nat.reduceLeDiff, Nat.reduceEqDiff, Nat.reduceLT, Bool.not_true, Bool.not_false, Bool.true_and, Bool.false_and, is_side_ok hS (fits_mem h2 hm)])
                      rw [List.map_id] at l3
                      have l4 := eqD_nil (S := S) (fits_filter (fun m => !isBtw 0 1 m) h2) (by omega)
                      rw [isEmpty_filter] at l4
                      have c1' : (1 : Int) ≤ ms.length := by omega
                      have c2' : (ms.length : Int) ≤ 8 := by omega
                      simp [fC_ap, fVar_ap, fOp_ap, fB_ap, fAnd_ap, fOr_ap, fNot_ap, fAndV_ap, fOrV_ap, fNotV_ap, fIf_ap, fNil_ap, fCons_ap, fTup_ap, fLst_ap, fLstC_ap, fNoPart_ap, fPart_ap, fSl_ap, fNeg_ap, fCB_ap, fIsi_ap, fIsi2_ap, fNext_ap, fSeq_ap, fRet_ap, fRetF_ap, fgName_ap, fgNil_ap, fgCons_ap, fgTup_ap, fgSub_ap, fAsg_ap, fPar_ap, fPar3_ap, fDrop_ap, fApp_ap, fIfS_ap, fiSeq_ap, fiTup_ap, fiEnum_ap, fYes_ap, fCall_ap, fCall0_ap, fChain_ap, fBits_ap, fAddC_ap, fiAny_ap, Res.bind_ok, asB_ok, okO_some, bodyD, asB, iterOf, withLock_none, noErr_ok, wipeE, List.map_cons, List.map_nil, List.length_cons, List.length_nil, List.cons_append, List.nil_append, List.getElem?_cons_zero, List.getElem?_cons_succ, List.set_cons_zero, List.set_cons_succ, if_true, Bool.false_eq_true, if_false, Nat.reduceAdd, Nat.reduceSub, Nat.zero_add, List.replicate, tyD, atI_0, atI_1, lenD_lst, lenD_tup, ixD_tup, ixD_lst, eqD_int, eqD_str, neD_int, neD_str, leD_int, ltD_int, gtD_int, geD_int, addD_int, subD_int, intD_int, gx0, gx1, gx2, gs0, gs2, capN, Nat.zero_le, Nat.reduceLeDiff, Nat.reduceEqDiff, Nat.reduceLT, Bool.not_true, Bool.not_false, Bool.true_and, Bool.false_and, isiB, isRow, c1, c2, c1', c2', l3, l4]
                    · have c1' : (1 : Int) ≤ ms.length := by omega
                      have c2' : ¬ (ms.length : Int) ≤ 8 := by omega
                      simp [fC_ap, fVar_ap, fOp_ap, fB_ap, fAnd_ap, fOr_ap, fNot_ap, fAndV_ap, fOrV_ap, fNotV_ap, fIf_ap, fNil_ap, fCons_ap, fTup_ap, fLst_ap, fLstC_ap, fNoPart_ap, fPart_ap, fSl_ap, fNeg_ap, fCB_ap, fIsi_ap, fIsi2_ap, fNext_ap, fSeq_ap, fRet_ap, fRetF_ap, fgName_ap, fgNil_ap, fgCons_ap, fgTup_ap, fgSub_ap, fAsg_ap, fPar_ap, fPar3_ap, fDrop_ap, fApp_ap, fIfS_ap, fiSeq_ap, fiTup_ap, fiEnum_ap, fYes_ap, fCall_ap, fCall0_ap, fChain_ap, fBits_ap, fAddC_ap, fiAny_ap, Res.bind_ok, asB_ok, okO_some, bodyD, asB, iterOf, withLock_none, noErr_ok, wipeE, List.map_cons, List.map_nil, List.length_cons, List.length_nil, List.cons_append, List.nil_append, List.getElem?_cons_zero, List.getElem?_cons_succ, List.set_cons_zero, List.set_cons_succ, if_true, Bool.false_eq_true, if_false, Nat.reduceAdd, Nat.reduceSub, Nat.zero_add, List.replicate, tyD, atI_0, atI_1, lenD_lst, lenD_tup, ixD_tup, ixD_lst, eqD_int, eqD_str, neD_int, neD_str, leD_int, ltD_int, gtD_int, geD_int, addD_int, subD_int, intD_int, gx0, gx1, gx2, gs0, gs2, capN, Nat.zero_le, Nat.reduceLeDiff, Nat.reduceEqDiff, Nat.reduceLT, Bool.not_true, Bool.not_false, Bool.true_and, Bool.false_and, isiB, isRow, c1, c2, c1', c2']
                  · have c1' : ¬ (1 : Int) ≤ ms.length := by omega
                    simp [fC_ap, fVar_ap, fOp_ap, fB_ap, fAnd_ap, fOr_ap, fNot_ap, fAndV_ap, fOrV_ap, fNotV_ap, fIf_ap, fNil_ap, fCons_ap, fTup_ap, fLst_ap, fLstC_ap, fNoPart_ap, fPart_ap, fSl_ap, fNeg_ap, fCB_ap, fIsi_ap, fIsi2_ap, fNext_ap, fSeq_ap, fRet_ap, fRetF_ap, fgName_ap, fgNil_ap, fgCons_ap, fgTup_ap, fgSub_ap, fAsg_ap, fPar_ap, fPar3_ap, fDrop_ap, fApp_ap, fIfS_ap, fiSeq_ap, fiTup_ap, fiEnum_ap, fYes_ap, fCall_ap, fCall0_ap, fChain_ap, fBits_ap, fAddC_ap, fiAny_ap, Res.bind_ok, asB_ok, okO_some, bodyD, asB, iterOf, withLock_none, noErr_ok, wipeE, List.map_cons, List.map_nil, List.length_cons, List.length_nil, List.cons_append, List.nil_append, List.getElem?_cons_zero, List.getElem?_cons_succ, List.set_cons_zero, List.set_cons_succ, if_true, Bool.false_eq_true, if_false, Nat.reduceAdd, Nat.reduceSub, Nat.zero_add, List.replicate, tyD, atI_0, atI_1, lenD_lst, lenD_tup, ixD_tup, ixD_lst, eqD_int, eqD_str, neD_int, neD_str, leD_int, ltD_int, gtD_int, geD_int, addD_int, subD_int, intD_int, gx0, gx1, gx2, gs0, gs2, capN, Nat.zero_le, Nat.reduceLeDiff, Nat.reduceEqDiff, Nat.reduceLT, Bool.not_true, Bool.not_false, Bool.true_and, Bool.false_and, isiB, isRow, c1, c1']
              | _ => first | rfl | (exfalso; cases n <;> simp [fit] at h2)
            · cases y <;> simp [fC_ap, fVar_ap, fOp_ap, fB_ap, fAnd_ap, fOr_ap, fNot_ap, fAndV_ap, fOrV_ap, fNotV_ap, fIf_ap, fNil_ap, fCons_ap, fTup_ap, fLst_ap, fLstC_ap, fNoPart_ap, fPart_ap, fSl_ap, fNeg_ap, fCB_ap, fIsi_ap, fIsi2_ap, fNext_ap, fSeq_ap, fRet_ap, fRetF_ap, fgName_ap, fgNil_ap, fgCons_ap, fgTup_ap, fgSub_ap, fAsg_ap, fPar_ap, fPar3_ap, fDrop_ap, fApp_ap, fIfS_ap, fiSeq_ap, fiTup_ap, fiEnum_ap, fYes_ap, fCall_ap, fCall0_ap, fChain_ap, fBits_ap, fAddC_ap, fiAny_ap, Res.bind_ok, asB_ok, okO_some, bodyD, asB, iterOf, withLock_none, noErr_ok, wipeE, List.map_cons, List.map_nil, List.length_cons, List.length_nil, List.cons_append, List.nil_append, List.getElem?_cons_zero, List.getElem?_cons_succ, List.set_cons_zero, List.set_cons_succ, if_true, Bool.false_eq_true, if_false, Nat.reduceAdd, Nat.reduceSub, Nat.zero_add, List.replicate, tyD, atI_0, atI_1, lenD_lst, lenD_tup, ixD_tup, ixD_lst, eqD_int, eqD_str, neD_int, neD_str, leD_int, ltD_int, gtD_int, geD_int, addD_int, subD_int, intD_int, gx0, gx1, gx2, gs0, gs2, capN, Nat.zero_le, Nat.reduceLeDiff, Nat.reduceEqDiff, Nat.reduceLT, Bool.not_true, Bool.not_false, Bool.true_and, Bool.false_and, isRow, ew, isiB]
          | _ => first | rfl | (exfalso; cases n <;> simp [fit] at h1)
        | x :: y :: z :: r, _ =>
          have e : ¬ ((r.length : Int) + 1 + 1 + 1 = 2) := by omega
          simp [fC_ap, fVar_ap, fOp_ap, fB_ap, fAnd_ap, fOr_ap, fNot_ap, fAndV_ap, fOrV_ap, fNotV_ap, fIf_ap, fNil_ap, fCons_ap, fTup_ap, fLst_ap, fLstC_ap, fNoPart_ap, fPart_ap, fSl_ap, fNeg_ap, fCB_ap, fIsi_ap, fIsi2_ap, fNext_ap, fSeq_ap, fRet_ap, fRetF_ap, fgName_ap, fgNil_ap, fgCons_ap, fgTup_ap, fgSub_ap, fAsg_ap, fPar_ap, fPar3_ap, fDrop_ap, fApp_ap, fIfS_ap, fiSeq_ap, fiTup_ap, fiEnum_ap, fYes_ap, fCall_ap, fCall0_ap, fChain_ap, fBits_ap, fAddC_ap, fiAny_ap, Res.bind_ok, asB_ok, okO_some, bodyD, asB, iterOf, withLock_none, noErr_ok, wipeE, List.map_cons, List.map_nil, List.length_cons, List.length_nil, List.cons_append, List.nil_append, List.getElem?_cons_zero, List.getElem?_cons_succ, List.set_cons_zero, List.set_cons_succ, if_true, Bool.false_eq_true, if_false, Nat.reduceAdd, Nat.reduceSub, Nat.zero_add, List.replicate, tyD, atI_0, atI_1, lenD_lst, lenD_tup, ixD_tup, ixD_lst, eqD_int, eqD_str, neD_int, neD_str, leD_int, ltD_int, gtD_int, geD_int, addD_int, subD_int, intD_int, gx0, gx1, gx2, gs0, gs2, capN, Nat.zero_le, Nat.reduceLeDiff, Nat.reduceEqDiff, Nat.reduceLT, Bool.not_true, Bool.not_false, Bool.true_and, Bool.false_and, isRow, e, isiB]
    | _ => first | (exfalso; cases n <;> simp [fit] at h; done) | rfl
end
end K1

set_option maxHeartbeats 2000000
namespace K1
open PySem PySem.Spec PyProof.Rows L2 DL
def lowS : D → Bool
  | .tup [.int a, .int b] => decide (max a b ≤ 40)
  | _ => false
def isSpec (r : D → Bool) : D → Bool
  | .tup [sc, u] => isScore sc && lowS sc && r u
  | _ => false
def key1 : D → List Int
  | .tup [.tup [.int a, .int b], _] => [a, b]
  | _ => []
def rising (xs : List D) : Bool := (List.range (xs.length - 1)).all fun j => !geI (key1 (xs.getD j .non)) (key1 (xs.getD (j + 1) .non))
def fallsAt (xs : List D) : D → Bool
  | .int i => geI (key1 (xs.getD (i - 1).toNat .non)) (key1 (xs.getD i.toNat .non))
  | _ => false
def isSpecs (r : D → Bool) : D → Bool
  | .lst xs => decide (xs.length ≤ 8) && xs.all (isSpec r) && rising xs
  | _ => false
def isRace (r : D → Bool) : D → Bool
  | .tup [.str w, a, b, c, o, u, s] => decide (w = "race") && isNums a b c && isOrder o && (r u && isSpecs r s)
  | _ => false
def isRuleN : Nat → D → Bool
  | 0 => fun d => isWord "rally" d || isWord "hand" d
  | k + 1 => fun d => isWord "rally" d || isWord "hand" d || isRace (isRuleN k) d
section
variable {S : Sto} (hS : S.all coFree = true)
include hS
theorem score_cases {d : D} (h : isScore d = true) : ∃ a b : Int, d = .tup [.int a, .int b] := by
  unfold isScore at h
  split at h
  · rename_i x y
    rw [Bool.and_eq_true] at h
    cases x <;> simp [isCount] at h
    cases y <;> simp [isCount] at h
    exact ⟨_, _, rfl⟩
  · cases h
theorem special_ok {r : D → Bool} {f k : Nat} (H : ∀ {d : D} {n : Nat}, fit d n = true → n ≤ 60 → g_is_rule_within f [d, .int k] S = .ok (.bl (r d)) S) {d : D} {n : Nat} (h : fit d n = true) (hn : n ≤ 60) :
    g_is_special (f + 1) [d, .int k] S = .ok (.bl (isSpec r d)) S := by
  refine bodyT_ok ?_ hS rfl
  simp only [fC_ap, fVar_ap, fOp_ap, fB_ap, fAnd_ap, fOr_ap, fNot_ap, fAndV_ap, fOrV_ap, fNotV_ap, fIf_ap, fNil_ap, fCons_ap, fTup_ap, fLst_ap, fLstC_ap, fNoPart_ap, fPart_ap, fSl_ap, fNeg_ap, fCB_ap, fIsi_ap, fIsi2_ap, fNext_ap, fSeq_ap, fRet_ap, fRetF_ap, fgName_ap, fgNil_ap, fgCons_ap, fgTup_ap, fgSub_ap, fAsg_ap, fPar_ap, fPar3_ap, fDrop_ap, fApp_ap, fIfS_ap, fiSeq_ap, fiTup_ap, fiEnum_ap, fYes_ap, fCall_ap, fCall0_ap, fChain_ap, fBits_ap, fAddC_ap, fiAny_ap, Res.bind_ok, asB_ok, okO_some, bodyD, asB, iterOf, withLock_none, noErr_ok, wipeE, List.map_cons, List.map_nil, List.length_cons, List.length_nil, List.cons_append, List.nil_append, List.getElem?_cons_zero, List.getElem?_cons_succ, List.set_cons_zero, List.set_cons_succ, if_true, Bool.false_eq_true, if_false, Nat.reduceAdd, Nat.reduceSub, Nat.zero_add, List.replicate, tyD, atI_0, atI_1, lenD_lst, lenD_tup, ixD_tup, ixD_lst, eqD_int, eqD_str, neD_int, neD_str, leD_int, ltD_int, gtD_int, geD_int, addD_int, subD_int, intD_int, gx0, gx1, gx2, gs0, gs2, capN, Nat.zero_le, Nat.reduceLeDiff, Nat.reduceEqDiff, Nat.reduceLT, Bool.not_true, Bool.not_false, Bool.true_and, Bool.false_and, b_is_special]
  cases d with
  | tup xs =>
    cases n with
    | zero => simp [fit] at h
    | succ n =>
      match xs, h with
      | [], _ => rfl
      | [x], _ => cases x <;> rfl
      | [x, y], h =>
        simp only [fit, fits, Bool.and_eq_true] at h
        obtain ⟨h1, h2, -⟩ := h
        have e1 := is_score_ok hS h1
        have e2 := H h2 (by omega)
        cases q : isScore x with
        | false => simp [fC_ap, fVar_ap, fOp_ap, fB_ap, fAnd_ap, fOr_ap, fNot_ap, fAndV_ap, fOrV_ap, fNotV_ap, fIf_ap, fNil_ap, fCons_ap, fTup_ap, fLst_ap, fLstC_ap, fNoPart_ap, fPart_ap, fSl_ap, fNeg_ap, fCB_ap, fIsi_ap, fIsi2_ap, fNext_ap, fSeq_ap, fRet_ap, fRetF_ap, fgName_ap, fgNil_ap, fgCons_ap, fgTup_ap, fgSub_ap, fAsg_ap, fPar_ap, fPar3_ap, fDrop_ap, fApp_ap, fIfS_ap, fiSeq_ap, fiTup_ap, fiEnum_ap, fYes_ap, fCall_ap, fCall0_ap, fChain_ap, fBits_ap, fAddC_ap, fiAny_ap, Res.bind_ok, asB_ok, okO_some, bodyD, asB, iterOf, withLock_none, noErr_ok, wipeE, List.map_cons, List.map_nil, List.length_cons, List.length_nil, List.cons_append, List.nil_append, List.getElem?_cons_zero, List.getElem?_cons_succ, List.set_cons_zero, List.set_cons_succ, if_true, Bool.false_eq_true, if_false, Nat.reduceAdd, Nat.reduceSub, Nat.zero_add, List.replicate, tyD, atI_0, atI_1, lenD_lst, lenD_tup, ixD_tup, ixD_lst, eqD_int, eqD_str, neD_int, neD_str, leD_int, ltD_int, gtD_int, geD_int, addD_int, subD_int, intD_int, gx0, gx1, gx2, gs0, gs2, capN, Nat.zero_le, Nat.reduceLeDiff, Nat.reduceEqDiff, Nat.reduceLT, Bool.not_true, Bool.not_false, Bool.true_and, Bool.false_and, isiB, e1, q, isSpec]
        | true =>
          obtain ⟨a, b, rfl⟩ := score_cases hS q
          have e3 : maxT [.tup [.int a, .int b]] S = some (.int (max a b)) := rfl
          by_cases c : max a b ≤ 40
          · have c' : ¬ max a b > 40 := by omega
            simp [fC_ap, fVar_ap, fOp_ap, fB_ap, fAnd_ap, fOr_ap, fNot_ap, fAndV_ap, fOrV_ap, fNotV_ap, fIf_ap, fNil_ap, fCons_ap, fTup_ap, fLst_ap, fLstC_ap, fNoPart_ap, fPart_ap, fSl_ap, fNeg_ap, fCB_ap, fIsi_ap, fIsi2_ap, fNext_ap, fSeq_ap, fRet_ap, fRetF_ap, fgName_ap, fgNil_ap, fgCons_ap, fgTup_ap, fgSub_ap, fAsg_ap, fPar_ap, fPar3_ap, fDrop_ap, fApp_ap, fIfS_ap, fiSeq_ap, fiTup_ap, fiEnum_ap, fYes_ap, fCall_ap, fCall0_ap, fChain_ap, fBits_ap, fAddC_ap, fiAny_ap, Res.bind_ok, asB_ok, okO_some, bodyD, asB, iterOf, withLock_none, noErr_ok, wipeE, List.map_cons, List.map_nil, List.length_cons, List.length_nil, List.cons_append, List.nil_append, List.getElem?_cons_zero, List.getElem?_cons_succ, List.set_cons_zero, List.set_cons_succ, if_true, Bool.false_eq_true, if_false, Nat.reduceAdd, Nat.reduceSub, Nat.zero_add, List.replicate, tyD, atI_0, atI_1, lenD_lst, lenD_tup, ixD_tup, ixD_lst, eqD_int, eqD_str, neD_int, neD_str, leD_int, ltD_int, gtD_int, geD_int, addD_int, subD_int, intD_int, gx0, gx1, gx2, gs0, gs2, capN, Nat.zero_le, Nat.reduceLeDiff, Nat.reduceEqDiff, Nat.reduceLT, Bool.not_true, Bool.not_false, Bool.true_and, Bool.false_and, isiB, e1, q, isSpec, lowS, e3, c, c', e2]
          · have c' : max a b > 40 := by omega
            simp [fC_ap, fVar_ap, fOp_ap, fB_ap, fAnd_ap, fOr_ap, fNot_ap, fAndV_ap, fOrV_ap, fNotV_ap, fIf_ap, fNil_ap, fCons_ap, fTup_ap, fLst_ap, fLstC_ap, fNoPart_ap, fPart_ap, fSl_ap, fNeg_ap, fCB_ap, fIsi_ap, fIsi2_ap, fNext_ap, fSeq_ap, fRet_ap, fRetF_ap, fgName_ap, fgNil_ap, fgCons_ap, fgTup_ap, fgSub_ap, fAsg_ap, fPar_ap, fPar3_ap, fDrop_ap, fApp_ap, fIfS_ap, fiSeq_ap, fiTup_ap, fiEnum_ap, fYes_ap, fCall_ap, fCall0_ap, fChain_ap, fBits_ap, fAddC_ap, fiAny_ap, Res.bind_ok, asB_ok, okO_some, bodyD, asB, iterOf, withLock_none, noErr_ok, wipeE, List.map_cons, List.map_nil, List.length_cons, List.length_nil, List.cons_append, List.nil_append, List.getElem?_cons_zero, List.getElem?_cons_succ, List.set_cons_zero, List.set_cons_succ, if_true, Bool.false_eq_true, if_false, Nat.reduceAdd, Nat.reduceSub, Nat.zero_add, List.replicate, tyD, atI_0, atI_1, lenD_lst, lenD_tup, ixD_tup, ixD_lst, eqD_int, eqD_str, neD_int, neD_str, leD_int, ltD_int, gtD_int, geD_int, addD_int, subD_int, intD_int, gx0, gx1, gx2, gs0, gs2, capN, Nat.zero_le, Nat.reduceLeDiff, Nat.reduceEqDiff, Nat.reduceLT, Bool.not_true, Bool.not_false, Bool.true_and, Bool.false_and, isiB, e1, q, isSpec, lowS, e3, c, c', e2]
      | x :: y :: z :: r, _ =>
        have e : ¬ ((r.length : Int) + 1 + 1 + 1 = 2) := by omega
        simp [fC_ap, fVar_ap, fOp_ap, fB_ap, fAnd_ap, fOr_ap, fNot_ap, fAndV_ap, fOrV_ap, fNotV_ap, fIf_ap, fNil_ap, fCons_ap, fTup_ap, fLst_ap, fLstC_ap, fNoPart_ap, fPart_ap, fSl_ap, fNeg_ap, fCB_ap, fIsi_ap, fIsi2_ap, fNext_ap, fSeq_ap, fRet_ap, fRetF_ap, fgName_ap, fgNil_ap, fgCons_ap, fgTup_ap, fgSub_ap, fAsg_ap, fPar_ap, fPar3_ap, fDrop_ap, fApp_ap, fIfS_ap, fiSeq_ap, fiTup_ap, fiEnum_ap, fYes_ap, fCall_ap, fCall0_ap, fChain_ap, fBits_ap, fAddC_ap, fiAny_ap, Res.bind_ok, asB_ok, okO_some, bodyD, asB, iterOf, withLock_none, noErr_ok, wipeE, List.map_cons, List.map_nil, List.length_cons, List.length_nil, List.cons_append, List.nil_append, List.getElem?_cons_zero, List.getElem?_cons_succ, List.set_cons_zero, List.set_cons_succ, if_true, Bool.false_eq_true, if_false, Nat.reduceAdd, Nat.reduceSub, Nat.zero_add, List.replicate, tyD, atI_0, atI_1, lenD_lst, lenD_tup, ixD_tup, ixD_lst, eqD_int, eqD_str, neD_int, neD_str, leD_int, ltD_int, gtD_int, geD_int, addD_int, subD_int, intD_int, gx0, gx1, gx2, gs0, gs2, capN, Nat.zero_le, Nat.reduceLeDiff, Nat.reduceEqDiff, Nat.reduceLT, Bool.not_true, Bool.not_false, Bool.true_and, Bool.false_and, isSpec, e, isiB]
  | _ => first | (exfalso; cases n <;> simp [fit] at h; done) | rfl
theorem rangeD_len' {lo : Int} {n : Nat} : (rangeD lo n).length = n := rangeD_len
omit hS in
theorem falls_ok {xs : List D} {k : Nat} {ρ4 : Option D} (sp : ∀ m ∈ xs, ∃ (a b : Int) (u : D), m = .tup [.tup [.int a, .int b], u]) {j : Nat} (hj : j + 1 < xs.length) :
    fB (fOp geD (fOp ixD (fOp ixD (fVar 0) (fOp subD (fVar 3) (fC (.int 1)))) (fC (.int 0))) (fOp ixD (fOp ixD (fVar 0) (fVar 3)) (fC (.int 0)))) [some (.lst xs), some (.int k), ρ4, some (.int (1 + (j : Nat)))] S = .ok (fallsAt xs (.int (1 + (j : Nat)))) S := by
  have j1 : j < xs.length := by omega
  obtain ⟨a, b, u, e1⟩ := sp xs[j] (List.getElem_mem j1)
  obtain ⟨a', b', u', e2⟩ := sp xs[j + 1] (List.getElem_mem hj)
  have t1 : (1 + (j : Int) - 1).toNat = j := by omega
  have t2 : (1 + (j : Int)).toNat = j + 1 := by omega
  have k1 : key1 (xs.getD j .non) = [a, b] := by rw [List.getD_eq_getElem?_getD, List.getElem?_eq_getElem j1, Option.getD_some, e1]; rfl
  have k2 : key1 (xs.getD (j + 1) .non) = [a', b'] := by rw [List.getD_eq_getElem?_getD, List.getElem?_eq_getElem hj, Option.getD_some, e2]; rfl
  have fa : fallsAt xs (.int (1 + (j : Nat))) = geI [a, b] [a', b'] := by
    show geI (key1 (xs.getD (1 + (j : Int) - 1).toNat .non)) (key1 (xs.getD (1 + (j : Int)).toNat .non)) = _
    rw [t1, t2, k1, k2]
  have g1 : atI xs (1 + (j : Int) - 1) = some (.tup [.tup [.int a, .int b], u]) := by
    rw [show 1 + (j : Int) - 1 = (j : Nat) by omega]
    exact atI_at (by rw [List.getElem?_eq_getElem j1, e1])
  have g2 : atI xs (1 + (j : Int)) = some (.tup [.tup [.int a', .int b'], u']) := by
    rw [show 1 + (j : Int) = ((j + 1 : Nat) : Int) by omega]
    exact atI_at (by rw [List.getElem?_eq_getElem hj, e2])
  rw [fa]
  generalize hv : (1 + (j : Int)) = v at *
  have g3 : geD (.tup [.int a, .int b]) (.tup [.int a', .int b']) S = some (.bl (geI [a, b] [a', b'])) := rfl
  simp only [fC_ap, fVar_ap, fOp_ap, fB_ap, fAnd_ap, fOr_ap, fNot_ap, fAndV_ap, fOrV_ap, fNotV_ap, fIf_ap, fNil_ap, fCons_ap, fTup_ap, fLst_ap, fLstC_ap, fNoPart_ap, fPart_ap, fSl_ap, fNeg_ap, fCB_ap, fIsi_ap, fIsi2_ap, fNext_ap, fSeq_ap, fRet_ap, fRetF_ap, fgName_ap, fgNil_ap, fgCons_ap, fgTup_ap, fgSub_ap, fAsg_ap, fPar_ap, fPar3_ap, fDrop_ap, fApp_ap, fIfS_ap, fiSeq_ap, fiTup_ap, fiEnum_ap, fYes_ap, fCall_ap, fCall0_ap, fChain_ap, fBits_ap, fAddC_ap, fiAny_ap, Res.bind_ok, asB_ok, okO_some, bodyD, asB, iterOf, withLock_none, noErr_ok, wipeE, List.map_cons, List.map_nil, List.length_cons, List.length_nil, List.cons_append, List.nil_append, List.getElem?_cons_zero, List.getElem?_cons_succ, List.set_cons_zero, List.set_cons_succ, if_true, Bool.false_eq_true, if_false, Nat.reduceAdd, Nat.reduceSub, Nat.zero_add, List.replicate, tyD, atI_0, atI_1, lenD_lst, lenD_tup, ixD_tup, ixD_lst, eqD_int, eqD_str, neD_int, neD_str, leD_int, ltD_int, gtD_int, geD_int, addD_int, subD_int, intD_int, gx0, gx1, gx2, gs0, gs2, capN, Nat.zero_le, Nat.reduceLeDiff, Nat.reduceEqDiff, Nat.reduceLT, Bool.not_true, Bool.not_false, Bool.true_and, Bool.false_and, g1, g2, g3]
omit hS in
theorem walk_specs (xs : List D) (k : Nat) (c : xs.length ≤ 8) : fiRng2 (fCons (fC (.int 1)) (fCons (fCB lenD (fCons (fVar 0) fNil)) fNil)) [some (.lst xs), some (.int k), none, none] S = .ok ⟨rangeD 1 (xs.length - 1), none⟩ S := by
  have s1 : smallI (xs.length : Int) = true := smallI_nat (by omega)
  have s2 : (fCons (fC (.int 1)) (fCons (fCB lenD (fCons (fVar 0) fNil)) fNil)) [some (.lst xs), some (.int k), none, none] S = .ok [.int 1, .int xs.length] S := by
    simp only [fC_ap, fVar_ap, fOp_ap, fB_ap, fAnd_ap, fOr_ap, fNot_ap, fAndV_ap, fOrV_ap, fNotV_ap, fIf_ap, fNil_ap, fCons_ap, fTup_ap, fLst_ap, fLstC_ap, fNoPart_ap, fPart_ap, fSl_ap, fNeg_ap, fCB_ap, fIsi_ap, fIsi2_ap, fNext_ap, fSeq_ap, fRet_ap, fRetF_ap, fgName_ap, fgNil_ap, fgCons_ap, fgTup_ap, fgSub_ap, fAsg_ap, fPar_ap, fPar3_ap, fDrop_ap, fApp_ap, fIfS_ap, fiSeq_ap, fiTup_ap, fiEnum_ap, fYes_ap, fCall_ap, fCall0_ap, fChain_ap, fBits_ap, fAddC_ap, fiAny_ap, Res.bind_ok, asB_ok, okO_some, bodyD, asB, iterOf, withLock_none, noErr_ok, wipeE, List.map_cons, List.map_nil, List.length_cons, List.length_nil, List.cons_append, List.nil_append, List.getElem?_cons_zero, List.getElem?_cons_succ, List.set_cons_zero, List.set_cons_succ, if_true, Bool.false_eq_true, if_false, Nat.reduceAdd, Nat.reduceSub, Nat.zero_add, List.replicate, tyD, atI_0, atI_1, lenD_lst, lenD_tup, ixD_tup, ixD_lst, eqD_int, eqD_str, neD_int, neD_str, leD_int, ltD_int, gtD_int, geD_int, addD_int, subD_int, intD_int, gx0, gx1, gx2, gs0, gs2, capN, Nat.zero_le, Nat.reduceLeDiff, Nat.reduceEqDiff, Nat.reduceLT, Bool.not_true, Bool.not_false, Bool.true_and, Bool.false_and]
  have s3 : ((xs.length : Int) - 1).toNat = xs.length - 1 := by omega
  rw [← s3]
  exact fiRng2_ok s2 smallI_one s1
theorem specs_ok {r : D → Bool} {f k : Nat} (H : ∀ {d : D} {n : Nat}, fit d n = true → n ≤ 60 → g_is_special f [d, .int k] S = .ok (.bl (isSpec r d)) S) {d : D} {n : Nat} (h : fit d n = true) (hn : n ≤ 60) :
    g_are_specials (f + 1) [d, .int k] S = .ok (.bl (isSpecs r d)) S := by
  refine bodyT_ok ?_ hS rfl
  simp only [fC_ap, fVar_ap, fOp_ap, fB_ap, fAnd_ap, fOr_ap, fNot_ap, fAndV_ap, fOrV_ap, fNotV_ap, fIf_ap, fNil_ap, fCons_ap, fTup_ap, fLst_ap, fLstC_ap, fNoPart_ap, fPart_ap, fSl_ap, fNeg_ap, fCB_ap, fIsi_ap, fIsi2_ap, fNext_ap, fSeq_ap, fRet_ap, fRetF_ap, fgName_ap, fgNil_ap, fgCons_ap, fgTup_ap, fgSub_ap, fAsg_ap, fPar_ap, fPar3_ap, fDrop_ap, fApp_ap, fIfS_ap, fiSeq_ap, fiTup_ap, fiEnum_ap, fYes_ap, fCall_ap, fCall0_ap, fChain_ap, fBits_ap, fAddC_ap, fiAny_ap, Res.bind_ok, asB_ok, okO_some, bodyD, asB, iterOf, withLock_none, noErr_ok, wipeE, List.map_cons, List.map_nil, List.length_cons, List.length_nil, List.cons_append, List.nil_append, List.getElem?_cons_zero, List.getElem?_cons_succ, List.set_cons_zero, List.set_cons_succ, if_true, Bool.false_eq_true, if_false, Nat.reduceAdd, Nat.reduceSub, Nat.zero_add, List.replicate, tyD, atI_0, atI_1, lenD_lst, lenD_tup, ixD_tup, ixD_lst, eqD_int, eqD_str, neD_int, neD_str, leD_int, ltD_int, gtD_int, geD_int, addD_int, subD_int, intD_int, gx0, gx1, gx2, gs0, gs2, capN, Nat.zero_le, Nat.reduceLeDiff, Nat.reduceEqDiff, Nat.reduceLT, Bool.not_true, Bool.not_false, Bool.true_and, Bool.false_and, b_are_specials]
  cases d with
  | lst xs =>
    cases n with
    | zero => simp [fit] at h
    | succ n =>
      simp only [fit] at h
      by_cases c : xs.length ≤ 8
      · have c' : ¬ (xs.length : Int) > 8 := by omega
        have l1 := fLc_pure (vs := [2]) (fi := fiAny (fVar 0)) (g := fgName 2) (c := fNot (fB (fCall 2 (g_is_special f) (fCons (fVar 2) (fCons (fVar 1) fNil))))) (el := fVar 2) (ρ := [some (.lst xs), some (.int k), none, none]) (S := S) (xs := xs)
          (fun m => !isSpec r m) id (by simp only [fC_ap, fVar_ap, fOp_ap, fB_ap, fAnd_ap, fOr_ap, fNot_ap, fAndV_ap, fOrV_ap, fNotV_ap, fIf_ap, fNil_ap, fCons_ap, fTup_ap, fLst_ap, fLstC_ap, fNoPart_ap, fPart_ap, fSl_ap, fNeg_ap, fCB_ap, fIsi_ap, fIsi2_ap, fNext_ap, fSeq_ap, fRet_ap, fRetF_ap, fgName_ap, fgNil_ap, fgCons_ap, fgTup_ap, fgSub_ap, fAsg_ap, fPar_ap, fPar3_ap, fDrop_ap, fApp_ap, fIfS_ap, fiSeq_ap, fiTup_ap, fiEnum_ap, fYes_ap, fCall_ap, fCall0_ap, fChain_ap, fBits_ap, fAddC_ap, fiAny_ap, Res.bind_ok, asB_ok, okO_some, bodyD, asB, iterOf, withLock_none, noErr_ok, wipeE, List.map_cons, List.map_nil, List.length_cons, List.length_nil, List.cons_append, List.nil_append, List.getElem?_cons_zero, List.getElem?_cons_succ, List.set_cons_zero, List.set_cons_succ, if_true, Bool.false_eq_true, if_false, Nat.reduceAdd, Nat.reduceSub, Nat.zero_add, List.replicate, tyD, atI_0, atI_1, lenD_lst, lenD_tup, ixD_tup, ixD_lst, eqD_int, eqD_str, neD_int, neD_str, leD_int, ltD_int, gtD_int, geD_int, addD_int, subD_int, intD_int, gx0, gx1, gx2, gs0, gs2, capN, Nat.zero_le, Nat.reduceLeDiff, Nat.reduceEqDiff, Nat.reduceLT, Bool.not_true, Bool.not_false, Bool.true_and, Bool.false_and]) (capN_of (by omega)) (fun m hm => by
            refine ⟨[some (.lst xs), some (.int k), some m, none], rfl, ?_, fun _ => rfl⟩
            simp only [fC_ap, fVar_ap, fOp_ap, fB_ap, fAnd_ap, fOr_ap, fNot_ap, fAndV_ap, fOrV_ap, fNotV_ap, fIf_ap, fNil_ap, fCons_ap, fTup_ap, fLst_ap, fLstC_ap, fNoPart_ap, fPart_ap, fSl_ap, fNeg_ap, fCB_ap, fIsi_ap, fIsi2_ap, fNext_ap, fSeq_ap, fRet_ap, fRetF_ap, fgName_ap, fgNil_ap, fgCons_ap, fgTup_ap, fgSub_ap, fAsg_ap, fPar_ap, fPar3_ap, fDrop_ap, fApp_ap, fIfS_ap, fiSeq_ap, fiTup_ap, fiEnum_ap, fYes_ap, fCall_ap, fCall0_ap, fChain_ap, fBits_ap, fAddC_ap, fiAny_ap, Res.bind_ok, asB_ok, okO_some, bodyD, asB, iterOf, withLock_none, noErr_ok, wipeE, List.map_cons, List.map_nil, List.length_cons, List.length_nil, List.cons_append, List.nil_append, List.getElem?_cons_zero, List.getElem?_cons_succ, List.set_cons_zero, List.set_cons_succ, if_true, Bool.false_eq_true, if_false, Nat.reduceAdd, Nat.reduceSub, Nat.zero_add, List.replicate, tyD, atI_0, atI_1, lenD_lst, lenD_tup, ixD_tup, ixD_lst, eqD_int, eqD_str, neD_int, neD_str, leD_int, ltD_int, gtD_int, geD_int, addD_int, subD_int, intD_int, gx0, gx1, gx2, gs0, gs2, capN, Nat.zero_le, Nat.reduceLeDiff, Nat.reduceEqDiff, Nat.reduceLT, Bool.not_true, Bool.not_false, Bool.true_and, Bool.false_and, H (fits_mem h hm) (by omega)])
        rw [List.map_id] at l1
        have l2 := neD_nil (S := S) (fits_filter (fun m => !isSpec r m) h) (by omega)
        rw [isEmpty_filter] at l2
        simp only [Bool.not_not] at l2
        cases q : xs.all (isSpec r) with
        | false => simp [fC_ap, fVar_ap, fOp_ap, fB_ap, fAnd_ap, fOr_ap, fNot_ap, fAndV_ap, fOrV_ap, fNotV_ap, fIf_ap, fNil_ap, fCons_ap, fTup_ap, fLst_ap, fLstC_ap, fNoPart_ap, fPart_ap, fSl_ap, fNeg_ap, fCB_ap, fIsi_ap, fIsi2_ap, fNext_ap, fSeq_ap, fRet_ap, fRetF_ap, fgName_ap, fgNil_ap, fgCons_ap, fgTup_ap, fgSub_ap, fAsg_ap, fPar_ap, fPar3_ap, fDrop_ap, fApp_ap, fIfS_ap, fiSeq_ap, fiTup_ap, fiEnum_ap, fYes_ap, fCall_ap, fCall0_ap, fChain_ap, fBits_ap, fAddC_ap, fiAny_ap, Res.bind_ok, asB_ok, okO_some, bodyD, asB, iterOf, withLock_none, noErr_ok, wipeE, List.map_cons, List.map_nil, List.length_cons, List.length_nil, List.cons_append, List.nil_append, List.getElem?_cons_zero, List.getElem?_cons_succ, List.set_cons_zero, List.set_cons_succ, if_true, Bool.false_eq_true, if_false, Nat.reduceAdd, Nat.reduceSub, Nat.zero_add, List.replicate, tyD, atI_0, atI_1, lenD_lst, lenD_tup, ixD_tup, ixD_lst, eqD_int, eqD_str, neD_int, neD_str, leD_int, ltD_int, gtD_int, geD_int, addD_int, subD_int, intD_int, gx0, gx1, gx2, gs0, gs2, capN, Nat.zero_le, Nat.reduceLeDiff, Nat.reduceEqDiff, Nat.reduceLT, Bool.not_true, Bool.not_false, Bool.true_and, Bool.false_and, isiB, c', l1, l2, q, isSpecs]
        | true =>
          have sp : ∀ m ∈ xs, ∃ (a b : Int) (u : D), m = .tup [.tup [.int a, .int b], u] := fun m hm => by
            have := List.all_eq_true.mp q m hm
            unfold isSpec at this
            split at this
            · simp only [Bool.and_eq_true] at this
              obtain ⟨a, b, rfl⟩ := score_cases hS this.1.1
              exact ⟨a, b, _, rfl⟩
            · cases this
          have l3 := fLc_pure (vs := [3]) (fi := fiRng2 (fCons (fC (.int 1)) (fCons (fCB lenD (fCons (fVar 0) fNil)) fNil))) (g := fgName 3)
            (c := fB (fOp geD (fOp ixD (fOp ixD (fVar 0) (fOp subD (fVar 3) (fC (.int 1)))) (fC (.int 0))) (fOp ixD (fOp ixD (fVar 0) (fVar 3)) (fC (.int 0))))) (el := fVar 3) (ρ := [some (.lst xs), some (.int k), none, none]) (S := S) (xs := rangeD 1 (xs.length - 1))
            (fallsAt xs) id (walk_specs xs k c) (by rw [rangeD_len]; exact capN_of (by omega)) (fun m hm => by
                obtain ⟨j, hj, rfl⟩ : ∃ j, j < xs.length - 1 ∧ m = .int (1 + (j : Nat)) := by
                  unfold rangeD at hm
                  obtain ⟨j, hj, rfl⟩ := List.mem_map.mp hm
                  exact ⟨j, List.mem_range.mp hj, rfl⟩
                exact ⟨[some (.lst xs), some (.int k), none, some (.int (1 + (j : Nat)))], rfl, falls_ok sp (by omega), fun _ => rfl⟩)
          rw [List.map_id] at l3
          have fr : fits (rangeD 1 (xs.length - 1)) 0 = true := by
            rw [fits_all, List.all_eq_true]
            intro m hm
            unfold rangeD at hm
            obtain ⟨j, hj, rfl⟩ := List.mem_map.mp hm
            rfl
          have l4 := eqD_nil (S := S) (fits_filter (fallsAt xs) fr) (by omega)
          rw [isEmpty_filter] at l4
          have l5 : ((rangeD 1 (xs.length - 1)).all fun m => !fallsAt xs m) = rising xs := by
            unfold rising rangeD
            rw [List.all_map]
            refine congrArg _ (funext fun j => ?_)
            simp only [Function.comp, fallsAt]
            rw [show (1 + (j : Int) - 1).toNat = j by omega, show (1 + (j : Int)).toNat = j + 1 by omega]
          rw [l5] at l4
          have z : isSpecs r (.lst xs) = rising xs := by
            show (decide (xs.length ≤ 8) && xs.all (isSpec r) && rising xs) = rising xs
            rw [decide_eq_true c, q]
            rfl
          have q' : (xs.all fun x => isSpec r x) = true := q
          have c2 : decide ((xs.length : Int) > 8) = false := decide_eq_false c'
          have ti : isiB "list" "list" = true := by decide
          rw [z]
          simp only [fC_ap, fVar_ap, fOp_ap, fB_ap, fAnd_ap, fOr_ap, fNot_ap, fAndV_ap, fOrV_ap, fNotV_ap, fIf_ap, fNil_ap, fCons_ap, fTup_ap, fLst_ap, fLstC_ap, fNoPart_ap, fPart_ap, fSl_ap, fNeg_ap, fCB_ap, fIsi_ap, fIsi2_ap, fNext_ap, fSeq_ap, fRet_ap, fRetF_ap, fgName_ap, fgNil_ap, fgCons_ap, fgTup_ap, fgSub_ap, fAsg_ap, fPar_ap, fPar3_ap, fDrop_ap, fApp_ap, fIfS_ap, fiSeq_ap, fiTup_ap, fiEnum_ap, fYes_ap, fCall_ap, fCall0_ap, fChain_ap, fBits_ap, fAddC_ap, fiAny_ap, Res.bind_ok, asB_ok, okO_some, bodyD, asB, iterOf, withLock_none, noErr_ok, wipeE, List.map_cons, List.map_nil, List.length_cons, List.length_nil, List.cons_append, List.nil_append, List.getElem?_cons_zero, List.getElem?_cons_succ, List.set_cons_zero, List.set_cons_succ, if_true, Bool.false_eq_true, if_false, Nat.reduceAdd, Nat.reduceSub, Nat.zero_add, List.replicate, tyD, atI_0, atI_1, lenD_lst, lenD_tup, ixD_tup, ixD_lst, eqD_int, eqD_str, neD_int, neD_str, leD_int, ltD_int, gtD_int, geD_int, addD_int, subD_int, intD_int, gx0, gx1, gx2, gs0, gs2, capN, Nat.zero_le, Nat.reduceLeDiff, Nat.reduceEqDiff, Nat.reduceLT, Bool.not_true, Bool.not_false, Bool.true_and, Bool.false_and, ti, c2, l1, l2, q', l3, l4]
      · have c' : (xs.length : Int) > 8 := by omega
        simp [fC_ap, fVar_ap, fOp_ap, fB_ap, fAnd_ap, fOr_ap, fNot_ap, fAndV_ap, fOrV_ap, fNotV_ap, fIf_ap, fNil_ap, fCons_ap, fTup_ap, fLst_ap, fLstC_ap, fNoPart_ap, fPart_ap, fSl_ap, fNeg_ap, fCB_ap, fIsi_ap, fIsi2_ap, fNext_ap, fSeq_ap, fRet_ap, fRetF_ap, fgName_ap, fgNil_ap, fgCons_ap, fgTup_ap, fgSub_ap, fAsg_ap, fPar_ap, fPar3_ap, fDrop_ap, fApp_ap, fIfS_ap, fiSeq_ap, fiTup_ap, fiEnum_ap, fYes_ap, fCall_ap, fCall0_ap, fChain_ap, fBits_ap, fAddC_ap, fiAny_ap, Res.bind_ok, asB_ok, okO_some, bodyD, asB, iterOf, withLock_none, noErr_ok, wipeE, List.map_cons, List.map_nil, List.length_cons, List.length_nil, List.cons_append, List.nil_append, List.getElem?_cons_zero, List.getElem?_cons_succ, List.set_cons_zero, List.set_cons_succ, if_true, Bool.false_eq_true, if_false, Nat.reduceAdd, Nat.reduceSub, Nat.zero_add, List.replicate, tyD, atI_0, atI_1, lenD_lst, lenD_tup, ixD_tup, ixD_lst, eqD_int, eqD_str, neD_int, neD_str, leD_int, ltD_int, gtD_int, geD_int, addD_int, subD_int, intD_int, gx0, gx1, gx2, gs0, gs2, capN, Nat.zero_le, Nat.reduceLeDiff, Nat.reduceEqDiff, Nat.reduceLT, Bool.not_true, Bool.not_false, Bool.true_and, Bool.false_and, isiB, c, c', isSpecs]
  | _ => first | (exfalso; cases n <;> simp [fit] at h; done) | rfl
theorem rule_ok : ∀ (k f : Nat), 3 * k + 1 ≤ f → ∀ {d : D} {n : Nat}, fit d n = true → n ≤ 60 → g_is_rule_within f [d, .int k] S = .ok (.bl (isRuleN k d)) S := by
  intro k
  induction k with
  | zero =>
    intro f hf d n h hn
    obtain ⟨f, rfl⟩ : ∃ f', f = f' + 1 := ⟨f - 1, by omega⟩
    refine bodyT_ok ?_ hS rfl
    have e1 := is_word_ok (w := "rally") hS h
    have e2 := is_word_ok (w := "hand") hS h
    cases q1 : isWord "rally" d with
    | true => simp [fC_ap, fVar_ap, fOp_ap, fB_ap, fAnd_ap, fOr_ap, fNot_ap, fAndV_ap, fOrV_ap, fNotV_ap, fIf_ap, fNil_ap, fCons_ap, fTup_ap, fLst_ap, fLstC_ap, fNoPart_ap, fPart_ap, fSl_ap, fNeg_ap, fCB_ap, fIsi_ap, fIsi2_ap, fNext_ap, fSeq_ap, fRet_ap, fRetF_ap, fgName_ap, fgNil_ap, fgCons_ap, fgTup_ap, fgSub_ap, fAsg_ap, fPar_ap, fPar3_ap, fDrop_ap, fApp_ap, fIfS_ap, fiSeq_ap, fiTup_ap, fiEnum_ap, fYes_ap, fCall_ap, fCall0_ap, fChain_ap, fBits_ap, fAddC_ap, fiAny_ap, Res.bind_ok, asB_ok, okO_some, bodyD, asB, iterOf, withLock_none, noErr_ok, wipeE, List.map_cons, List.map_nil, List.length_cons, List.length_nil, List.cons_append, List.nil_append, List.getElem?_cons_zero, List.getElem?_cons_succ, List.set_cons_zero, List.set_cons_succ, if_true, Bool.false_eq_true, if_false, Nat.reduceAdd, Nat.reduceSub, Nat.zero_add, List.replicate, tyD, atI_0, atI_1, lenD_lst, lenD_tup, ixD_tup, ixD_lst, eqD_int, eqD_str, neD_int, neD_str, leD_int, ltD_int, gtD_int, geD_int, addD_int, subD_int, intD_int, gx0, gx1, gx2, gs0, gs2, capN, Nat.zero_le, Nat.reduceLeDiff, Nat.reduceEqDiff, Nat.reduceLT, Bool.not_true, Bool.not_false, Bool.true_and, Bool.false_and, b_is_rule_within, e1, q1, isRuleN]
    | false =>
      cases q2 : isWord "hand" d with
      | true => simp [fC_ap, fVar_ap, fOp_ap, fB_ap, fAnd_ap, fOr_ap, fNot_ap, fAndV_ap, fOrV_ap, fNotV_ap, fIf_ap, fNil_ap, fCons_ap, fTup_ap, fLst_ap, fLstC_ap, fNoPart_ap, fPart_ap, fSl_ap, fNeg_ap, fCB_ap, fIsi_ap, fIsi2_ap, fNext_ap, fSeq_ap, fRet_ap, fRetF_ap, fgName_ap, fgNil_ap, fgCons_ap, fgTup_ap, fgSub_ap, fAsg_ap, fPar_ap, fPar3_ap, fDrop_ap, fApp_ap, fIfS_ap, fiSeq_ap, fiTup_ap, fiEnum_ap, fYes_ap, fCall_ap, fCall0_ap, fChain_ap, fBits_ap, fAddC_ap, fiAny_ap, Res.bind_ok, asB_ok, okO_some, bodyD, asB, iterOf, withLock_none, noErr_ok, wipeE, List.map_cons, List.map_nil, List.length_cons, List.length_nil, List.cons_append, List.nil_append, List.getElem?_cons_zero, List.getElem?_cons_succ, List.set_cons_zero, List.set_cons_succ, if_true, Bool.false_eq_true, if_false, Nat.reduceAdd, Nat.reduceSub, Nat.zero_add, List.replicate, tyD, atI_0, atI_1, lenD_lst, lenD_tup, ixD_tup, ixD_lst, eqD_int, eqD_str, neD_int, neD_str, leD_int, ltD_int, gtD_int, geD_int, addD_int, subD_int, intD_int, gx0, gx1, gx2, gs0, gs2, capN, Nat.zero_le, Nat.reduceLeDiff, Nat.reduceEqDiff, Nat.reduceLT, Bool.not_true, Bool.not_false, Bool.true_and, Bool.false_and, b_is_rule_within, e1, e2, q1, q2, isRuleN]
      | false => simp [fC_ap, fVar_ap, fOp_ap, fB_ap, fAnd_ap, fOr_ap, fNot_ap, fAndV_ap, fOrV_ap, fNotV_ap, fIf_ap, fNil_ap, fCons_ap, fTup_ap, fLst_ap, fLstC_ap, fNoPart_ap, fPart_ap, fSl_ap, fNeg_ap, fCB_ap, fIsi_ap, fIsi2_ap, fNext_ap, fSeq_ap, fRet_ap, fRetF_ap, fgName_ap, fgNil_ap, fgCons_ap, fgTup_ap, fgSub_ap, fAsg_ap, fPar_ap, fPar3_ap, fDrop_ap, fApp_ap, fIfS_ap, fiSeq_ap, fiTup_ap, fiEnum_ap, fYes_ap, fCall_ap, fCall0_ap, fChain_ap, fBits_ap, fAddC_ap, fiAny_ap, Res.bind_ok, asB_ok, okO_some, bodyD, asB, iterOf, withLock_none, noErr_ok, wipeE, List.map_cons, List.map_nil, List.length_cons, List.length_nil, List.cons_append, List.nil_append, List.getElem?_cons_zero, List.getElem?_cons_succ, List.set_cons_zero, List.set_cons_succ, if_true, Bool.false_eq_true, if_false, Nat.reduceAdd, Nat.reduceSub, Nat.zero_add, List.replicate, tyD, atI_0, atI_1, lenD_lst, lenD_tup, ixD_tup, ixD_lst, eqD_int, eqD_str, neD_int, neD_str, leD_int, ltD_int, gtD_int, geD_int, addD_int, subD_int, intD_int, gx0, gx1, gx2, gs0, gs2, capN, Nat.zero_le, Nat.reduceLeDiff, Nat.reduceEqDiff, Nat.reduceLT, Bool.not_true, Bool.not_false, Bool.true_and, Bool.false_and, b_is_rule_within, e1, e2, q1, q2, isRuleN]
  | succ k ih =>
    intro f hf d n h hn
    obtain ⟨f, rfl⟩ : ∃ f', f = f' + 1 + 1 + 1 := ⟨f - 3, by omega⟩
    refine bodyT_ok ?_ hS rfl
    have e1 := is_word_ok (w := "rally") hS h
    have e2 := is_word_ok (w := "hand") hS h
    have hk : ¬ ((k : Int) + 1 = 0) := by omega
    cases q1 : isWord "rally" d with
    | true => simp [fC_ap, fVar_ap, fOp_ap, fB_ap, fAnd_ap, fOr_ap, fNot_ap, fAndV_ap, fOrV_ap, fNotV_ap, fIf_ap, fNil_ap, fCons_ap, fTup_ap, fLst_ap, fLstC_ap, fNoPart_ap, fPart_ap, fSl_ap, fNeg_ap, fCB_ap, fIsi_ap, fIsi2_ap, fNext_ap, fSeq_ap, fRet_ap, fRetF_ap, fgName_ap, fgNil_ap, fgCons_ap, fgTup_ap, fgSub_ap, fAsg_ap, fPar_ap, fPar3_ap, fDrop_ap, fApp_ap, fIfS_ap, fiSeq_ap, fiTup_ap, fiEnum_ap, fYes_ap, fCall_ap, fCall0_ap, fChain_ap, fBits_ap, fAddC_ap, fiAny_ap, Res.bind_ok, asB_ok, okO_some, bodyD, asB, iterOf, withLock_none, noErr_ok, wipeE, List.map_cons, List.map_nil, List.length_cons, List.length_nil, List.cons_append, List.nil_append, List.getElem?_cons_zero, List.getElem?_cons_succ, List.set_cons_zero, List.set_cons_succ, if_true, Bool.false_eq_true, if_false, Nat.reduceAdd, Nat.reduceSub, Nat.zero_add, List.replicate, tyD, atI_0, atI_1, lenD_lst, lenD_tup, ixD_tup, ixD_lst, eqD_int, eqD_str, neD_int, neD_str, leD_int, ltD_int, gtD_int, geD_int, addD_int, subD_int, intD_int, gx0, gx1, gx2, gs0, gs2, capN, Nat.zero_le, Nat.reduceLeDiff, Nat.reduceEqDiff, Nat.reduceLT, Bool.not_true, Bool.not_false, Bool.true_and, Bool.false_and, b_is_rule_within, e1, q1, isRuleN]
    | false =>
      cases q2 : isWord "hand" d with
      | true => simp [fC_ap, fVar_ap, fOp_ap, fB_ap, fAnd_ap, fOr_ap, fNot_ap, fAndV_ap, fOrV_ap, fNotV_ap, fIf_ap, fNil_ap, fCons_ap, fTup_ap, fLst_ap, fLstC_ap, fNoPart_ap, fPart_ap, fSl_ap, fNeg_ap, fCB_ap, fIsi_ap, fIsi2_ap, fNext_ap, fSeq_ap, fRet_ap, fRetF_ap, fgName_ap, fgNil_ap, fgCons_ap, fgTup_ap, fgSub_ap, fAsg_ap, fPar_ap, fPar3_ap, fDrop_ap, fApp_ap, fIfS_ap, fiSeq_ap, fiTup_ap, fiEnum_ap, fYes_ap, fCall_ap, fCall0_ap, fChain_ap, fBits_ap, fAddC_ap, fiAny_ap, Res.bind_ok, asB_ok, okO_some, bodyD, asB, iterOf, withLock_none, noErr_ok, wipeE, List.map_cons, List.map_nil, List.length_cons, List.length_nil, List.cons_append, List.nil_append, List.getElem?_cons_zero, List.getElem?_cons_succ, List.set_cons_zero, List.set_cons_succ, if_true, Bool.false_eq_true, if_false, Nat.reduceAdd, Nat.reduceSub, Nat.zero_add, List.replicate, tyD, atI_0, atI_1, lenD_lst, lenD_tup, ixD_tup, ixD_lst, eqD_int, eqD_str, neD_int, neD_str, leD_int, ltD_int, gtD_int, geD_int, addD_int, subD_int, intD_int, gx0, gx1, gx2, gs0, gs2, capN, Nat.zero_le, Nat.reduceLeDiff, Nat.reduceEqDiff, Nat.reduceLT, Bool.not_true, Bool.not_false, Bool.true_and, Bool.false_and, b_is_rule_within, e1, e2, q1, q2, isRuleN]
      | false =>
        have er : isRuleN (k + 1) d = isRace (isRuleN k) d := by simp only [isRuleN, q1, q2, Bool.false_or]
        rw [er]
        simp only [fC_ap, fVar_ap, fOp_ap, fB_ap, fAnd_ap, fOr_ap, fNot_ap, fAndV_ap, fOrV_ap, fNotV_ap, fIf_ap, fNil_ap, fCons_ap, fTup_ap, fLst_ap, fLstC_ap, fNoPart_ap, fPart_ap, fSl_ap, fNeg_ap, fCB_ap, fIsi_ap, fIsi2_ap, fNext_ap, fSeq_ap, fRet_ap, fRetF_ap, fgName_ap, fgNil_ap, fgCons_ap, fgTup_ap, fgSub_ap, fAsg_ap, fPar_ap, fPar3_ap, fDrop_ap, fApp_ap, fIfS_ap, fiSeq_ap, fiTup_ap, fiEnum_ap, fYes_ap, fCall_ap, fCall0_ap, fChain_ap, fBits_ap, fAddC_ap, fiAny_ap, Res.bind_ok, asB_ok, okO_some, bodyD, asB, iterOf, withLock_none, noErr_ok, wipeE, List.map_cons, List.map_nil, List.length_cons, List.length_nil, List.cons_append, List.nil_append, List.getElem?_cons_zero, List.getElem?_cons_succ, List.set_cons_zero, List.set_cons_succ, if_true, Bool.false_eq_true, if_false, Nat.reduceAdd, Nat.reduceSub, Nat.zero_add, List.replicate, tyD, atI_0, atI_1, lenD_lst, lenD_tup, ixD_tup, ixD_lst, eqD_int, eqD_str, neD_int, neD_str, leD_int, ltD_int, gtD_int, geD_int, addD_int, subD_int, intD_int, gx0, gx1, gx2, gs0, gs2, capN, Nat.zero_le, Nat.reduceLeDiff, Nat.reduceEqDiff, Nat.reduceLT, Bool.not_true, Bool.not_false, Bool.true_and, Bool.false_and, b_is_rule_within, e1, e2, q1, q2]
        clear e1 e2 q1 q2 er
        cases d with
        | tup xs =>
          cases n with
          | zero => simp [fit] at h
          | succ n =>
            simp only [fit] at h
            by_cases hl : xs.length = 7
            · match xs, hl, h with
              | [x1, x2, x3, x4, x5, x6, x7], _, h =>
                simp only [fits, Bool.and_eq_true] at h
                obtain ⟨h1, h2, h3, h4, h5, h6, h7, -⟩ := h
                cases x1 with
                | str w =>
                  have a1 := are_numbers_ok hS h2 h3 h4
                  have a2 := is_order_ok hS h5 (by omega)
                  have a3 := ih (f + 1 + 1) (by omega) h6 (by omega)
                  have a4 := specs_ok (f := f + 1) (k := k) (r := isRuleN k) hS (fun {d n} hd hn => special_ok hS (fun {d n} hd hn => ih f (by omega) hd hn) hd hn) h7 (by omega)
                  have ek : ((k : Int) + 1) - 1 = k := by omega
                  by_cases c1 : w = "race"
                  · subst c1
                    cases c2 : isNums x2 x3 x4 with
                    | false => simp [fC_ap, fVar_ap, fOp_ap, fB_ap, fAnd_ap, fOr_ap, fNot_ap, fAndV_ap, fOrV_ap, fNotV_ap, fIf_ap, fNil_ap, fCons_ap, fTup_ap, fLst_ap, fLstC_ap, fNoPart_ap, fPart_ap, fSl_ap, fNeg_ap, fCB_ap, fIsi_ap, fIsi2_ap, fNext_ap, fSeq_ap, fRet_ap, fRetF_ap, fgName_ap, fgNil_ap, fgCons_ap, fgTup_ap, fgSub_ap, fAsg_ap, fPar_ap, fPar3_ap, fDrop_ap, fApp_ap, fIfS_ap, fiSeq_ap, fiTup_ap, fiEnum_ap, fYes_ap, fCall_ap, fCall0_ap, fChain_ap, fBits_ap, fAddC_ap, fiAny_ap, Res.bind_ok, asB_ok, okO_some, bodyD, asB, iterOf, withLock_none, noErr_ok, wipeE, List.map_cons, List.map_nil, List.length_cons, List.length_nil, List.cons_append, List.nil_append, List.getElem?_cons_zero, List.getElem?_cons_succ, List.set_cons_zero, List.set_cons_succ, if_true, Bool.false_eq_true, if_false, Nat.reduceAdd, Nat.reduceSub, Nat.zero_add, List.replicate, tyD, atI_0, atI_1, lenD_lst, lenD_tup, ixD_tup, ixD_lst, eqD_int, eqD_str, neD_int, neD_str, leD_int, ltD_int, gtD_int, geD_int, addD_int, subD_int, intD_int, gx0, gx1, gx2, gs0, gs2, capN, Nat.zero_le, Nat.reduceLeDiff, Nat.reduceEqDiff, Nat.reduceLT, Bool.not_true, Bool.not_false, Bool.true_and, Bool.false_and, isiB, hk, isRace, a1, c2]
                    | true =>
                      cases c3 : isOrder x5 with
                      | false => simp [fC_ap, fVar_ap, fOp_ap, fB_ap, fAnd_ap, fOr_ap, fNot_ap, fAndV_ap, fOrV_ap, fNotV_ap, fIf_ap, fNil_ap, fCons_ap, fTup_ap, fLst_ap, fLstC_ap, fNoPart_ap, fPart_ap, fSl_ap, fNeg_ap, fCB_ap, fIsi_ap, fIsi2_ap, fNext_ap, fSeq_ap, fRet_ap, fRetF_ap, fgName_ap, fgNil_ap, fgCons_ap, fgTup_ap, fgSub_ap, fAsg_ap, fPar_ap, fPar3_ap, fDrop_ap, fApp_ap, fIfS_ap, fiSeq_ap, fiTup_ap, fiEnum_ap, fYes_ap, fCall_ap, fCall0_ap, fChain_ap, fBits_ap, fAddC_ap, fiAny_ap, Res.bind_ok, asB_ok, okO_some, bodyD, asB, iterOf, withLock_none, noErr_ok, wipeE, List.map_cons, List.map_nil, List.length_cons, List.length_nil, List.cons_append, List.nil_append, List.getElem?_cons_zero, List.getElem?_cons_succ, List.set_cons_zero, List.set_cons_succ, if_true, Bool.false_eq_true, if_false, Nat.reduceAdd, Nat.reduceSub, Nat.zero_add, List.replicate, tyD, atI_0, atI_1, lenD_lst, lenD_tup, ixD_tup, ixD_lst, eqD_int, eqD_str, neD_int, neD_str, leD_int, ltD_int, gtD_int, geD_int, addD_int, subD_int, intD_int, gx0, gx1, gx2, gs0, gs2, capN, Nat.zero_le, Nat.reduceLeDiff, Nat.reduceEqDiff, Nat.reduceLT, Bool.not_true, Bool.not_false, Bool.true_and, Bool.false_and, isiB, hk, isRace, a1, a2, c2, c3]
                      | true =>
                        cases c4 : isRuleN k x6 with
                        | false => simp [fC_ap, fVar_ap, fOp_ap, fB_ap, fAnd_ap, fOr_ap, fNot_ap, fAndV_ap, fOrV_ap, fNotV_ap, fIf_ap, fNil_ap, fCons_ap, fTup_ap, fLst_ap, fLstC_ap, fNoPart_ap, fPart_ap, fSl_ap, fNeg_ap, fCB_ap, fIsi_ap, fIsi2_ap, fNext_ap, fSeq_ap, fRet_ap, fRetF_ap, fgName_ap, fgNil_ap, fgCons_ap, fgTup_ap, fgSub_ap, fAsg_ap, fPar_ap, fPar3_ap, fDrop_ap, fApp_ap, fIfS_ap, fiSeq_ap, fiTup_ap, fiEnum_ap, fYes_ap, fCall_ap, fCall0_ap, fChain_ap, fBits_ap, fAddC_ap, fiAny_ap, Res.bind_ok, asB_ok, okO_some, bodyD, asB, iterOf, withLock_none, noErr_ok, wipeE, List.map_cons, List.map_nil, List.length_cons, List.length_nil, List.cons_append, List.nil_append, List.getElem?_cons_zero, List.getElem?_cons_succ, List.set_cons_zero, List.set_cons_succ, if_true, Bool.false_eq_true, if_false, Nat.reduceAdd, Nat.reduceSub, Nat.zero_add, List.replicate, tyD, atI_0, atI_1, lenD_lst, lenD_tup, ixD_tup, ixD_lst, eqD_int, eqD_str, neD_int, neD_str, leD_int, ltD_int, gtD_int, geD_int, addD_int, subD_int, intD_int, gx0, gx1, gx2, gs0, gs2, capN, Nat.zero_le, Nat.reduceLeDiff, Nat.reduceEqDiff, Nat.reduceLT, Bool.not_true, Bool.not_false, Bool.true_and, Bool.false_and, isiB, hk, isRace, a1, a2, a3, c2, c3, c4, ek]
                        | true => simp [fC_ap, fVar_ap, fOp_ap, fB_ap, fAnd_ap, fOr_ap, fNot_ap, fAndV_ap, fOrV_ap, fNotV_ap, fIf_ap, fNil_ap, fCons_ap, fTup_ap, fLst_ap, fLstC_ap, fNoPart_ap, fPart_ap, fSl_ap, fNeg_ap, fCB_ap, fIsi_ap, fIsi2_ap, fNext_ap, fSeq_ap, fRet_ap, fRetF_ap, fgName_ap, fgNil_ap, fgCons_ap, fgTup_ap, fgSub_ap, fAsg_ap, fPar_ap, fPar3_ap, fDrop_ap, fApp_ap, fIfS_ap, fiSeq_ap, fiTup_ap, fiEnum_ap, fYes_ap, fCall_ap, fCall0_ap, fChain_ap, fBits_ap, fAddC_ap, fiAny_ap, Res.bind_ok, asB_ok, okO_some, bodyD, asB, iterOf, withLock_none, noErr_ok, wipeE, List.map_cons, List.map_nil, List.length_cons, List.length_nil, List.cons_append, List.nil_append, List.getElem?_cons_zero, List.getElem?_cons_succ, List.set_cons_zero, List.set_cons_succ, if_true, Bool.false_eq_true, if_false, Nat.reduceAdd, Nat.reduceSub, Nat.zero_add, List.replicate, tyD, atI_0, atI_1, lenD_lst, lenD_tup, ixD_tup, ixD_lst, eqD_int, eqD_str, neD_int, neD_str, leD_int, ltD_int, gtD_int, geD_int, addD_int, subD_int, intD_int, gx0, gx1, gx2, gs0, gs2, capN, Nat.zero_le, Nat.reduceLeDiff, Nat.reduceEqDiff, Nat.reduceLT, Bool.not_true, Bool.not_false, Bool.true_and, Bool.false_and, isiB, hk, isRace, a1, a2, a3, a4, c2, c3, c4, ek]
                  · simp [fC_ap, fVar_ap, fOp_ap, fB_ap, fAnd_ap, fOr_ap, fNot_ap, fAndV_ap, fOrV_ap, fNotV_ap, fIf_ap, fNil_ap, fCons_ap, fTup_ap, fLst_ap, fLstC_ap, fNoPart_ap, fPart_ap, fSl_ap, fNeg_ap, fCB_ap, fIsi_ap, fIsi2_ap, fNext_ap, fSeq_ap, fRet_ap, fRetF_ap, fgName_ap, fgNil_ap, fgCons_ap, fgTup_ap, fgSub_ap, fAsg_ap, fPar_ap, fPar3_ap, fDrop_ap, fApp_ap, fIfS_ap, fiSeq_ap, fiTup_ap, fiEnum_ap, fYes_ap, fCall_ap, fCall0_ap, fChain_ap, fBits_ap, fAddC_ap, fiAny_ap, Res.bind_ok, asB_ok, okO_some, bodyD, asB, iterOf, withLock_none, noErr_ok, wipeE, List.map_cons, List.map_nil, List.length_cons, List.length_nil, List.cons_append, List.nil_append, List.getElem?_cons_zero, List.getElem?_cons_succ, List.set_cons_zero, List.set_cons_succ, if_true, Bool.false_eq_true, if_false, Nat.reduceAdd, Nat.reduceSub, Nat.zero_add, List.replicate, tyD, atI_0, atI_1, lenD_lst, lenD_tup, ixD_tup, ixD_lst, eqD_int, eqD_str, neD_int, neD_str, leD_int, ltD_int, gtD_int, geD_int, addD_int, subD_int, intD_int, gx0, gx1, gx2, gs0, gs2, capN, Nat.zero_le, Nat.reduceLeDiff, Nat.reduceEqDiff, Nat.reduceLT, Bool.not_true, Bool.not_false, Bool.true_and, Bool.false_and, isiB, hk, isRace, c1]
                | _ => first | (simp [fC_ap, fVar_ap, fOp_ap, fB_ap, fAnd_ap, fOr_ap, fNot_ap, fAndV_ap, fOrV_ap, fNotV_ap, fIf_ap, fNil_ap, fCons_ap, fTup_ap, fLst_ap, fLstC_ap, fNoPart_ap, fPart_ap, fSl_ap, fNeg_ap, fCB_ap, fIsi_ap, fIsi2_ap, fNext_ap, fSeq_ap, fRet_ap, fRetF_ap, fgName_ap, fgNil_ap, fgCons_ap, fgTup_ap, fgSub_ap, fAsg_ap, fPar_ap, fPar3_ap, fDrop_ap, fApp_ap, fIfS_ap, fiSeq_ap, fiTup_ap, fiEnum_ap, fYes_ap, fCall_ap, fCall0_ap, fChain_ap, fBits_ap, fAddC_ap, fiAny_ap, Res.bind_ok, asB_ok, okO_some, bodyD, asB, iterOf, withLock_none, noErr_ok, wipeE, List.map_cons, List.map_nil, List.length_cons, List.length_nil, List.cons_append, List.nil_append, List.getElem?_cons_zero, List.getElem?_cons_succ, List.set_cons_zero, List.set_cons_succ, if_true, Bool.false_eq_true, if_false, Nat.reduceAdd, Nat.reduceSub, Nat.zero_add, List.replicate, tyD, atI_0, atI_1, lenD_lst, lenD_tup, ixD_tup, ixD_lst, eqD_int, eqD_str, neD_int, neD_str, leD_int, ltD_int, gtD_int, geD_int, addD_int, subD_int, intD_int, gx0, gx1, gx2, gs0, gs2, capN, Nat.zero_le, Nat.reduceLeDiff, Nat.reduceEqDiff, Nat.reduceLT, Bool.not_true, Bool.not_false, Bool.true_and, Bool.false_and, isiB, hk, isRace]; done) | (exfalso; cases n <;> simp [fit] at h1)
            · have hl' : ¬ (xs.length : Int) = 7 := by omega
              have z : isRace (isRuleN k) (.tup xs) = false := by
                unfold isRace
                split
                · rename_i e
                  cases e
                  exact absurd rfl hl
                · rfl
              rw [z]
              simp [fC_ap, fVar_ap, fOp_ap, fB_ap, fAnd_ap, fOr_ap, fNot_ap, fAndV_ap, fOrV_ap, fNotV_ap, fIf_ap, fNil_ap, fCons_ap, fTup_ap, fLst_ap, fLstC_ap, fNoPart_ap, fPart_ap, fSl_ap, fNeg_ap, fCB_ap, fIsi_ap, fIsi2_ap, fNext_ap, fSeq_ap, fRet_ap, fRetF_ap, fgName_ap, fgNil_ap, fgCons_ap, fgTup_ap, fgSub_ap, fAsg_ap, fPar_ap, fPar3_ap, fDrop_ap, fApp_ap, fIfS_ap, fiSeq_ap, fiTup_ap, fiEnum_ap, fYes_ap, fCall_ap, fCall0_ap, fChain_ap, fBits_ap, fAddC_ap, fiAny_ap, Res.bind_ok, asB_ok, okO_some, bodyD, asB, iterOf, withLock_none, noErr_ok, wipeE, List.map_cons, List.map_nil, List.length_cons, List.length_nil, List.cons_append, List.nil_append, List.getElem?_cons_zero, List.getElem?_cons_succ, List.set_cons_zero, List.set_cons_succ, if_true, Bool.false_eq_true, if_false, Nat.reduceAdd, Nat.reduceSub, Nat.zero_add, List.replicate, tyD, atI_0, atI_1, lenD_lst, lenD_tup, ixD_tup, ixD_lst, eqD_int, eqD_str, neD_int, neD_str, leD_int, ltD_int, gtD_int, geD_int, addD_int, subD_int, intD_int, gx0, gx1, gx2, gs0, gs2, capN, Nat.zero_le, Nat.reduceLeDiff, Nat.reduceEqDiff, Nat.reduceLT, Bool.not_true, Bool.not_false, Bool.true_and, Bool.false_and, isiB, hk, hl']
        | _ => first | (simp [fC_ap, fVar_ap, fOp_ap, fB_ap, fAnd_ap, fOr_ap, fNot_ap, fAndV_ap, fOrV_ap, fNotV_ap, fIf_ap, fNil_ap, fCons_ap, fTup_ap, fLst_ap, fLstC_ap, fNoPart_ap, fPart_ap, fSl_ap, fNeg_ap, fCB_ap, fIsi_ap, fIsi2_ap, fNext_ap, fSeq_ap, fRet_ap, fRetF_ap, fgName_ap, fgNil_ap, fgCons_ap, fgTup_ap, fgSub_ap, fAsg_ap, fPar_ap, fPar3_ap, fDrop_ap, fApp_ap, fIfS_ap, fiSeq_ap, fiTup_ap, fiEnum_ap, fYes_ap, fCall_ap, fCall0_ap, fChain_ap, fBits_ap, fAddC_ap, fiAny_ap, Res.bind_ok, asB_ok, okO_some, bodyD, asB, iterOf, withLock_none, noErr_ok, wipeE, List.map_cons, List.map_nil, List.length_cons, List.length_nil, List.cons_append, List.nil_append, List.getElem?_cons_zero, List.getElem?_cons_succ, List.set_cons_zero, List.set_cons_succ, if_true, Bool.false_eq_true, if_false, Nat.reduceAdd, Nat.reduceSub, Nat.zero_add, List.replicate, tyD, atI_0, atI_1, lenD_lst, lenD_tup, ixD_tup, ixD_lst, eqD_int, eqD_str, neD_int, neD_str, leD_int, ltD_int, gtD_int, geD_int, addD_int, subD_int, intD_int, gx0, gx1, gx2, gs0, gs2, capN, Nat.zero_le, Nat.reduceLeDiff, Nat.reduceEqDiff, Nat.reduceLT, Bool.not_true, Bool.not_false, Bool.true_and, Bool.false_and, isiB, hk, isRace]; done) | (exfalso; cases n <;> simp [fit] at h)
theorem is_rule_ok {d : D} {n : Nat} (h : fit d n = true) (hn : n ≤ 60) : g_is_rule [d] S = .ok (.bl (isRuleN 4 d)) S := by
  refine bodyT_ok ?_ hS rfl
  have e := rule_ok hS 4 16 (by decide) h hn
  simp only [fC_ap, fVar_ap, fOp_ap, fB_ap, fAnd_ap, fOr_ap, fNot_ap, fAndV_ap, fOrV_ap, fNotV_ap, fIf_ap, fNil_ap, fCons_ap, fTup_ap, fLst_ap, fLstC_ap, fNoPart_ap, fPart_ap, fSl_ap, fNeg_ap, fCB_ap, fIsi_ap, fIsi2_ap, fNext_ap, fSeq_ap, fRet_ap, fRetF_ap, fgName_ap, fgNil_ap, fgCons_ap, fgTup_ap, fgSub_ap, fAsg_ap, fPar_ap, fPar3_ap, fDrop_ap, fApp_ap, fIfS_ap, fiSeq_ap, fiTup_ap, fiEnum_ap, fYes_ap, fCall_ap, fCall0_ap, fChain_ap, fBits_ap, fAddC_ap, fiAny_ap, Res.bind_ok, asB_ok, okO_some, bodyD, asB, iterOf, withLock_none, noErr_ok, wipeE, List.map_cons, List.map_nil, List.length_cons, List.length_nil, List.cons_append, List.nil_append, List.getElem?_cons_zero, List.getElem?_cons_succ, List.set_cons_zero, List.set_cons_succ, if_true, Bool.false_eq_true, if_false, Nat.reduceAdd, Nat.reduceSub, Nat.zero_add, List.replicate, tyD, atI_0, atI_1, lenD_lst, lenD_tup, ixD_tup, ixD_lst, eqD_int, eqD_str, neD_int, neD_str, leD_int, ltD_int, gtD_int, geD_int, addD_int, subD_int, intD_int, gx0, gx1, gx2, gs0, gs2, capN, Nat.zero_le, Nat.reduceLeDiff, Nat.reduceEqDiff, Nat.reduceLT, Bool.not_true, Bool.not_false, Bool.true_and, Bool.false_and, b_is_rule, c_DEEPEST]
  exact congrArg (fun r => Res.bind (Res.bind r _) _) e
end
end K1

set_option maxHeartbeats 2000000
namespace K1
open PySem PySem.Spec PyProof.Rows L2 DL
def hash1 (b c : Int) : Int := (b * 1140671 + 27644437 * c * c + 131 * c + 19) % 2147483629
def hash2 (b c : Int) : Int := (hash1 b c * hash1 b c + 62089 * c + 32416187) % 2147483587
def hashI (b c : Int) : Int := (hash2 b c * 48271) % 2147483647
theorem hash_ok {S : Sto} (hS : S.all coFree = true) {b c : Int} (hc : c.natAbs < 18446744073709551616) : g__law_hash [.int b, .int c] S = .ok (.int (hashI b c)) S := by
  refine bodyT_ok ?_ hS rfl
  have e1 : mulD (.int b) (.int 1140671) S = some (.int (b * 1140671)) := mulD_int (mulOk_r (by decide))
  have e2 : mulD (.int 27644437) (.int c) S = some (.int (27644437 * c)) := mulD_int (mulOk_l (by decide))
  have e3 : mulD (.int (27644437 * c)) (.int c) S = some (.int (27644437 * c * c)) := mulD_int (mulOk_r hc)
  have e4 : mulD (.int 131) (.int c) S = some (.int (131 * c)) := mulD_int (mulOk_l (by decide))
  have e5 : ∀ i, modD (.int i) (.int 2147483629) S = some (.int (i % 2147483629)) := fun i => modD_int (by decide)
  have n1 : (hash1 b c).natAbs < 18446744073709551616 := by
    have := Int.emod_nonneg (b * 1140671 + 27644437 * c * c + 131 * c + 19) (show (2147483629 : Int) ≠ 0 by decide)
    have := Int.emod_lt_of_pos (b * 1140671 + 27644437 * c * c + 131 * c + 19) (show (0 : Int) < 2147483629 by decide)
    unfold hash1
    omega
  have e6 : mulD (.int (hash1 b c)) (.int (hash1 b c)) S = some (.int (hash1 b c * hash1 b c)) := mulD_int (mulOk_r n1)
  have e7 : mulD (.int 62089) (.int c) S = some (.int (62089 * c)) := mulD_int (mulOk_l (by decide))
  have e8 : ∀ i, modD (.int i) (.int 2147483587) S = some (.int (i % 2147483587)) := fun i => modD_int (by decide)
  have e9 : ∀ i, mulD (.int i) (.int 48271) S = some (.int (i * 48271)) := fun i => mulD_int (mulOk_r (by decide))
  have e10 : ∀ i, modD (.int i) (.int 2147483647) S = some (.int (i % 2147483647)) := fun i => modD_int (by decide)
  have f1 : (b * 1140671 + 27644437 * c * c + 131 * c + 19) % 2147483629 = hash1 b c := rfl
  simp only [fC_ap, fVar_ap, fOp_ap, fB_ap, fAnd_ap, fOr_ap, fNot_ap, fAndV_ap, fOrV_ap, fNotV_ap, fIf_ap, fNil_ap, fCons_ap, fTup_ap, fLst_ap, fLstC_ap, fNoPart_ap, fPart_ap, fSl_ap, fNeg_ap, fCB_ap, fIsi_ap, fIsi2_ap, fNext_ap, fSeq_ap, fRet_ap, fRetF_ap, fgName_ap, fgNil_ap, fgCons_ap, fgTup_ap, fgSub_ap, fAsg_ap, fPar_ap, fPar3_ap, fDrop_ap, fApp_ap, fIfS_ap, fiSeq_ap, fiTup_ap, fiEnum_ap, fYes_ap, fCall_ap, fCall0_ap, fChain_ap, fBits_ap, fAddC_ap, fiAny_ap, Res.bind_ok, asB_ok, okO_some, bodyD, asB, iterOf, withLock_none, noErr_ok, wipeE, List.map_cons, List.map_nil, List.length_cons, List.length_nil, List.cons_append, List.nil_append, List.getElem?_cons_zero, List.getElem?_cons_succ, List.set_cons_zero, List.set_cons_succ, if_true, Bool.false_eq_true, if_false, Nat.reduceAdd, Nat.reduceSub, Nat.zero_add, List.replicate, tyD, atI_0, atI_1, lenD_lst, lenD_tup, ixD_tup, ixD_lst, eqD_int, eqD_str, neD_int, neD_str, leD_int, ltD_int, gtD_int, geD_int, addD_int, subD_int, intD_int, gx0, gx1, gx2, gs0, gs2, capN, Nat.zero_le, Nat.reduceLeDiff, Nat.reduceEqDiff, Nat.reduceLT, Bool.not_true, Bool.not_false, Bool.true_and, Bool.false_and, b__law_hash, e1, e2, e3, e4, e5, f1, e6, e7, e8, e9, e10]
  rfl
theorem bits_few {i : Int} (h0 : 1 ≤ i) (h : i ≤ 1000) : Builtin.Int.intBits i ≤ 10 := by
  refine PySem.intBits_le_iff.mpr ?_
  have e : 2 ^ 10 = 1024 := by decide
  rw [e]
  omega
theorem random_ok {n : Nat} {x : CO} {L : Sto} (G : Gn n x) (hn : n ≤ 1000000000) (hL : L.all coFree = true) {bd : Int} (h1 : 1 ≤ bd) (h2 : bd ≤ 1000) :
    ∃ y v, g__law_random [.cel 0, .int bd] (x :: L) = .ok (.int v) (y :: L) ∧ Gn (n + 1) y ∧ 0 ≤ v ∧ v < bd := by
  obtain ⟨a, b, c, rfl, ha, hb1, hb2, hc, hcn⟩ := G
  have fd : ∀ (S : Sto) (i : Int), fdivD (.int i) (.int bd) S = some (.int (i / bd)) := fun S i => fdivD_int (fdivOk_of (by omega) (by omega))
  have md : ∀ (S : Sto) (i : Int), modD (.int i) (.int bd) S = some (.int (i % bd)) := fun S i => modD_int (by omega)
  have nn := fun i : Int => Int.emod_nonneg i (show bd ≠ 0 by omega)
  have lt := fun i : Int => Int.emod_lt_of_pos i (show 0 < bd by omega)
  by_cases c0 : a > 0
  · refine ⟨gen (a / bd) b c, a % bd, ?_, ⟨_, _, _, rfl, Int.ediv_nonneg ha (by omega), hb1, hb2, hc, by omega⟩, nn a, lt a⟩
    refine bodyT_to (L := []) (T := gen (a / bd) b c :: L) ?_ rfl (by rw [List.all_cons, hL]; rfl) rfl
    simp only [fC_ap, fVar_ap, fOp_ap, fB_ap, fAnd_ap, fOr_ap, fNot_ap, fAndV_ap, fOrV_ap, fNotV_ap, fIf_ap, fNil_ap, fCons_ap, fTup_ap, fLst_ap, fLstC_ap, fNoPart_ap, fPart_ap, fSl_ap, fNeg_ap, fCB_ap, fIsi_ap, fIsi2_ap, fNext_ap, fSeq_ap, fRet_ap, fRetF_ap, fgName_ap, fgNil_ap, fgCons_ap, fgTup_ap, fgSub_ap, fAsg_ap, fPar_ap, fPar3_ap, fDrop_ap, fApp_ap, fIfS_ap, fiSeq_ap, fiTup_ap, fiEnum_ap, fYes_ap, fCall_ap, fCall0_ap, fChain_ap, fBits_ap, fAddC_ap, fiAny_ap, Res.bind_ok, asB_ok, okO_some, bodyD, asB, iterOf, withLock_none, noErr_ok, wipeE, List.map_cons, List.map_nil, List.length_cons, List.length_nil, List.cons_append, List.nil_append, List.getElem?_cons_zero, List.getElem?_cons_succ, List.set_cons_zero, List.set_cons_succ, if_true, Bool.false_eq_true, if_false, Nat.reduceAdd, Nat.reduceSub, Nat.zero_add, List.replicate, tyD, atI_0, atI_1, lenD_lst, lenD_tup, ixD_tup, ixD_lst, eqD_int, eqD_str, neD_int, neD_str, leD_int, ltD_int, gtD_int, geD_int, addD_int, subD_int, intD_int, gx0, gx1, gx2, gs0, gs2, capN, Nat.zero_le, Nat.reduceLeDiff, Nat.reduceEqDiff, Nat.reduceLT, Bool.not_true, Bool.not_false, Bool.true_and, Bool.false_and, b__law_random, gen, decide_eq_true c0, fd, md, List.append_nil]
  · have f30 : ∀ (S : Sto) (i : Int), fdivD (.int i) (.int 30) S = some (.int (i / 30)) := fun S i => fdivD_int (fdivOk_of (by decide) (by decide))
    have bt : ((Builtin.Int.intBits bd : Nat) : Int) / 30 = 0 := by
      have := bits_few h1 h2
      omega
    refine ⟨gen a b (c + 1), (0 * 2147483587 + hashI b (c + 1)) % bd, ?_, ⟨_, _, _, rfl, ha, hb1, hb2, by omega, by omega⟩, nn _, lt _⟩
    have hh := hash_ok (S := gen a b (c + 1) :: L) (by rw [List.all_cons, hL]; rfl) (b := b) (c := c + 1) (by omega)
    refine bodyT_to (L := []) (T := gen a b (c + 1) :: L) ?_ rfl (by rw [List.all_cons, hL]; rfl) rfl
    have one : fiRng1 (fCons (fOp addD (fC (.int 1)) (fOp fdivD (fBits (fVar 1)) (fC (.int 30)))) fNil) [some (.cel 0), some (.int bd), some (.int 0), none] (gen a b c :: L) = .ok ⟨[.int 0], none⟩ (gen a b c :: L) := by
      have q := fiRng1_ok (f := fCons (fOp addD (fC (.int 1)) (fOp fdivD (fBits (fVar 1)) (fC (.int 30)))) fNil) (ρ := [some (.cel 0), some (.int bd), some (.int 0), none]) (S := gen a b c :: L) (j := 1) (by simp only [fC_ap, fVar_ap, fOp_ap, fB_ap, fAnd_ap, fOr_ap, fNot_ap, fAndV_ap, fOrV_ap, fNotV_ap, fIf_ap, fNil_ap, fCons_ap, fTup_ap, fLst_ap, fLstC_ap, fNoPart_ap, fPart_ap, fSl_ap, fNeg_ap, fCB_ap, fIsi_ap, fIsi2_ap, fNext_ap, fSeq_ap, fRet_ap, fRetF_ap, fgName_ap, fgNil_ap, fgCons_ap, fgTup_ap, fgSub_ap, fAsg_ap, fPar_ap, fPar3_ap, fDrop_ap, fApp_ap, fIfS_ap, fiSeq_ap, fiTup_ap, fiEnum_ap, fYes_ap, fCall_ap, fCall0_ap, fChain_ap, fBits_ap, fAddC_ap, fiAny_ap, Res.bind_ok, asB_ok, okO_some, bodyD, asB, iterOf, withLock_none, noErr_ok, wipeE, List.map_cons, List.map_nil, List.length_cons, List.length_nil, List.cons_append, List.nil_append, List.getElem?_cons_zero, List.getElem?_cons_succ, List.set_cons_zero, List.set_cons_succ, if_true, Bool.false_eq_true, if_false, Nat.reduceAdd, Nat.reduceSub, Nat.zero_add, List.replicate, tyD, atI_0, atI_1, lenD_lst, lenD_tup, ixD_tup, ixD_lst, eqD_int, eqD_str, neD_int, neD_str, leD_int, ltD_int, gtD_int, geD_int, addD_int, subD_int, intD_int, gx0, gx1, gx2, gs0, gs2, capN, Nat.zero_le, Nat.reduceLeDiff, Nat.reduceEqDiff, Nat.reduceLT, Bool.not_true, Bool.not_false, Bool.true_and, Bool.false_and, f30, bt]; rfl) smallI_one
      exact q
    have m0 : ∀ (S : Sto), mulD (.int 0) (.int 2147483587) S = some (.int (0 * 2147483587)) := fun S => mulD_int (mulOk_r (by decide))
    have loop : fFor (fiRng1 (fCons (fOp addD (fC (.int 1)) (fOp fdivD (fBits (fVar 1)) (fC (.int 30)))) fNil)) (fgName 3) (fSeq (fAsg (fOp addD (fOp ixD (fVar 0) (fC (.int 2))) (fC (.int 1))) (fgSub (fVar 0) (fC (.int 2))))
    (fAsg (fOp addD (fOp mulD (fVar 2) (fC (.int 2147483587))) (fCall 2 g__law_hash (fCons (fOp ixD (fVar 0) (fC (.int 1))) (fCons (fOp ixD (fVar 0) (fC (.int 2))) fNil)))) (fgName 2))) [some (.cel 0), some (.int bd), some (.int 0), none] (gen a b c :: L) =
        .ok (.nx, [some (.cel 0), some (.int bd), some (.int (0 * 2147483587 + hashI b (c + 1))), some (.int 0)]) (gen a b (c + 1) :: L) := by
      unfold fFor
      rw [one]
      unfold gen at hh ⊢
      simp only [fC_ap, fVar_ap, fOp_ap, fB_ap, fAnd_ap, fOr_ap, fNot_ap, fAndV_ap, fOrV_ap, fNotV_ap, fIf_ap, fNil_ap, fCons_ap, fTup_ap, fLst_ap, fLstC_ap, fNoPart_ap, fPart_ap, fSl_ap, fNeg_ap, fCB_ap, fIsi_ap, fIsi2_ap, fNext_ap, fSeq_ap, fRet_ap, fRetF_ap, fgName_ap, fgNil_ap, fgCons_ap, fgTup_ap, fgSub_ap, fAsg_ap, fPar_ap, fPar3_ap, fDrop_ap, fApp_ap, fIfS_ap, fiSeq_ap, fiTup_ap, fiEnum_ap, fYes_ap, fCall_ap, fCall0_ap, fChain_ap, fBits_ap, fAddC_ap, fiAny_ap, Res.bind_ok, asB_ok, okO_some, bodyD, asB, iterOf, withLock_none, noErr_ok, wipeE, List.map_cons, List.map_nil, List.length_cons, List.length_nil, List.cons_append, List.nil_append, List.getElem?_cons_zero, List.getElem?_cons_succ, List.set_cons_zero, List.set_cons_succ, if_true, Bool.false_eq_true, if_false, Nat.reduceAdd, Nat.reduceSub, Nat.zero_add, List.replicate, tyD, atI_0, atI_1, lenD_lst, lenD_tup, ixD_tup, ixD_lst, eqD_int, eqD_str, neD_int, neD_str, leD_int, ltD_int, gtD_int, geD_int, addD_int, subD_int, intD_int, gx0, gx1, gx2, gs0, gs2, capN, Nat.zero_le, Nat.reduceLeDiff, Nat.reduceEqDiff, Nat.reduceLT, Bool.not_true, Bool.not_false, Bool.true_and, Bool.false_and, loopD, m0, hh]
    have c1 : decide (a > 0) = false := decide_eq_false c0
    unfold gen at loop ⊢
    simp only [fC_ap, fVar_ap, fOp_ap, fB_ap, fAnd_ap, fOr_ap, fNot_ap, fAndV_ap, fOrV_ap, fNotV_ap, fIf_ap, fNil_ap, fCons_ap, fTup_ap, fLst_ap, fLstC_ap, fNoPart_ap, fPart_ap, fSl_ap, fNeg_ap, fCB_ap, fIsi_ap, fIsi2_ap, fNext_ap, fSeq_ap, fRet_ap, fRetF_ap, fgName_ap, fgNil_ap, fgCons_ap, fgTup_ap, fgSub_ap, fAsg_ap, fPar_ap, fPar3_ap, fDrop_ap, fApp_ap, fIfS_ap, fiSeq_ap, fiTup_ap, fiEnum_ap, fYes_ap, fCall_ap, fCall0_ap, fChain_ap, fBits_ap, fAddC_ap, fiAny_ap, Res.bind_ok, asB_ok, okO_some, bodyD, asB, iterOf, withLock_none, noErr_ok, wipeE, List.map_cons, List.map_nil, List.length_cons, List.length_nil, List.cons_append, List.nil_append, List.getElem?_cons_zero, List.getElem?_cons_succ, List.set_cons_zero, List.set_cons_succ, if_true, Bool.false_eq_true, if_false, Nat.reduceAdd, Nat.reduceSub, Nat.zero_add, List.replicate, tyD, atI_0, atI_1, lenD_lst, lenD_tup, ixD_tup, ixD_lst, eqD_int, eqD_str, neD_int, neD_str, leD_int, ltD_int, gtD_int, geD_int, addD_int, subD_int, intD_int, gx0, gx1, gx2, gs0, gs2, capN, Nat.zero_le, Nat.reduceLeDiff, Nat.reduceEqDiff, Nat.reduceLT, Bool.not_true, Bool.not_false, Bool.true_and, Bool.false_and, b__law_random, c1, loop, md, List.append_nil]
/-- one of the things -/
theorem pick_ok {n : Nat} {x : CO} {L : Sto} (G : Gn n x) (hn : n ≤ 1000000000) (hL : L.all coFree = true) {xs : List D} (h1 : 1 ≤ xs.length) (h2 : xs.length ≤ 1000) (hf : noCels xs = true) :
    ∃ y d, g__law_pick [.cel 0, .lst xs] (x :: L) = .ok d (y :: L) ∧ Gn (n + 1) y ∧ d ∈ xs := by
  obtain ⟨y, v, e, G2, v1, v2⟩ := random_ok G hn hL (bd := xs.length) (by omega) (by omega)
  have hv : v.toNat < xs.length := by omega
  have hm : xs[v.toNat] ∈ xs := List.getElem_mem hv
  have at_ : atI xs v = some xs[v.toNat] := by
    have q := atI_at (xs := xs) (List.getElem?_eq_getElem hv)
    rw [show ((v.toNat : Nat) : Int) = v by omega] at q
    exact q
  refine ⟨y, xs[v.toNat], ?_, G2, hm⟩
  refine bodyT_to (L := []) (T := y :: L) ?_ rfl (G2.all hL) (mem_free hf hm)
  simp only [fC_ap, fVar_ap, fOp_ap, fB_ap, fAnd_ap, fOr_ap, fNot_ap, fAndV_ap, fOrV_ap, fNotV_ap, fIf_ap, fNil_ap, fCons_ap, fTup_ap, fLst_ap, fLstC_ap, fNoPart_ap, fPart_ap, fSl_ap, fNeg_ap, fCB_ap, fIsi_ap, fIsi2_ap, fNext_ap, fSeq_ap, fRet_ap, fRetF_ap, fgName_ap, fgNil_ap, fgCons_ap, fgTup_ap, fgSub_ap, fAsg_ap, fPar_ap, fPar3_ap, fDrop_ap, fApp_ap, fIfS_ap, fiSeq_ap, fiTup_ap, fiEnum_ap, fYes_ap, fCall_ap, fCall0_ap, fChain_ap, fBits_ap, fAddC_ap, fiAny_ap, Res.bind_ok, asB_ok, okO_some, bodyD, asB, iterOf, withLock_none, noErr_ok, wipeE, List.map_cons, List.map_nil, List.length_cons, List.length_nil, List.cons_append, List.nil_append, List.getElem?_cons_zero, List.getElem?_cons_succ, List.set_cons_zero, List.set_cons_succ, if_true, Bool.false_eq_true, if_false, Nat.reduceAdd, Nat.reduceSub, Nat.zero_add, List.replicate, tyD, atI_0, atI_1, lenD_lst, lenD_tup, ixD_tup, ixD_lst, eqD_int, eqD_str, neD_int, neD_str, leD_int, ltD_int, gtD_int, geD_int, addD_int, subD_int, intD_int, gx0, gx1, gx2, gs0, gs2, capN, Nat.zero_le, Nat.reduceLeDiff, Nat.reduceEqDiff, Nat.reduceLT, Bool.not_true, Bool.not_false, Bool.true_and, Bool.false_and, b__law_pick, e, at_, List.append_nil]
where
  mem_free : ∀ {xs : List D} {d : D}, noCels xs = true → d ∈ xs → noCel d = true
    | [], _, _, h => by cases h
    | y :: ys, d, h, m => by
      simp only [noCels, Bool.and_eq_true] at h
      rcases List.mem_cons.mp m with rfl | m
      · exact h.1
      · exact mem_free h.2 m
theorem cell_ok {ns : List Int} : ∃ v : Int, g__law_cell [.kls (ns.map .int), .int 0] [] = .ok (.int v) [] := by
  cases ns with
  | nil => exact ⟨0, by rfl⟩
  | cons i r =>
    refine ⟨i, bodyT_ok ?_ rfl rfl⟩
    have c : ltD (.int 0) (.int ((r.length : Int) + 1)) [] = some (.bl true) := by
      rw [ltD_int, decide_eq_true (by omega)]
    have l : lenD [.kls (.int i :: r.map .int)] [] = some (.int ((r.length : Int) + 1)) := by
      show some (D.int ((List.map D.int r).length + 1 : Nat)) = _
      rw [List.length_map]
      rfl
    have a : ixD (.kls (.int i :: r.map .int)) (.int 0) [] = some (.int i) := atI_0
    simp only [fC_ap, fVar_ap, fOp_ap, fB_ap, fAnd_ap, fOr_ap, fNot_ap, fAndV_ap, fOrV_ap, fNotV_ap, fIf_ap, fNil_ap, fCons_ap, fTup_ap, fLst_ap, fLstC_ap, fNoPart_ap, fPart_ap, fSl_ap, fNeg_ap, fCB_ap, fIsi_ap, fIsi2_ap, fNext_ap, fSeq_ap, fRet_ap, fRetF_ap, fgName_ap, fgNil_ap, fgCons_ap, fgTup_ap, fgSub_ap, fAsg_ap, fPar_ap, fPar3_ap, fDrop_ap, fApp_ap, fIfS_ap, fiSeq_ap, fiTup_ap, fiEnum_ap, fYes_ap, fCall_ap, fCall0_ap, fChain_ap, fBits_ap, fAddC_ap, fiAny_ap, Res.bind_ok, asB_ok, okO_some, bodyD, asB, iterOf, withLock_none, noErr_ok, wipeE, List.map_cons, List.map_nil, List.length_cons, List.length_nil, List.cons_append, List.nil_append, List.getElem?_cons_zero, List.getElem?_cons_succ, List.set_cons_zero, List.set_cons_succ, if_true, Bool.false_eq_true, if_false, Nat.reduceAdd, Nat.reduceSub, Nat.zero_add, List.replicate, tyD, atI_0, atI_1, lenD_lst, lenD_tup, ixD_tup, ixD_lst, eqD_int, eqD_str, neD_int, neD_str, leD_int, ltD_int, gtD_int, geD_int, addD_int, subD_int, intD_int, gx0, gx1, gx2, gs0, gs2, capN, Nat.zero_le, Nat.reduceLeDiff, Nat.reduceEqDiff, Nat.reduceLT, Bool.not_true, Bool.not_false, Bool.true_and, Bool.false_and, b__law_cell, c, l, a]
theorem generator_ok {ns : List Int} : ∃ x, g__law_generator [.kls (ns.map .int), .int 0] [] = .ok (.cel 0) [x] ∧ Gn 0 x := by
  obtain ⟨v, e⟩ := cell_ok (ns := ns)
  have p1 : powD (.int 10) (.int 18) [] = some (.int (10 ^ (18 : Int).toNat)) := powD_int (by decide +kernel)
  have p2 : powD (.int 10) (.int 60) [] = some (.int (10 ^ (60 : Int).toNat)) := powD_int (by decide +kernel)
  have p3 : powD (.int (10 ^ (60 : Int).toNat)) (.int 10) [] = some (.int ((10 ^ (60 : Int).toNat) ^ (10 : Int).toNat)) := powD_int (by decide +kernel)
  have pp : (0 : Int) < (10 ^ (60 : Int).toNat) ^ (10 : Int).toNat := by decide +kernel
  generalize (10 : Int) ^ (18 : Int).toNat = q1 at *
  generalize ((10 : Int) ^ (60 : Int).toNat) ^ (10 : Int).toNat = q3 at *
  generalize (10 : Int) ^ (60 : Int).toNat = q2 at *
  obtain ⟨m, em⟩ : ∃ m, maxT [.int (v - q1), .int 0] [] = some (.int m) := ⟨_, rfl⟩
  have m1 : modD (.int m) (.int q3) [] = some (.int (m % q3)) := modD_int pp
  have m2 : modD (.int v) (.int 2147483647) [] = some (.int (v % 2147483647)) := modD_int (by decide)
  have m3 : mulD (.int 1000) (.int 0) [] = some (.int (1000 * 0)) := mulD_int (mulOk_l (by decide))
  refine ⟨gen (m % q3) (v % 2147483647) (1000 * 0), ?_, _, _, _, rfl, Int.emod_nonneg _ (by omega), Int.emod_nonneg _ (by decide), Int.emod_lt_of_pos _ (by decide), by decide, by decide⟩
  show bodyD N__law_generator 2 (b__law_generator g__law_cell) [.kls (ns.map .int), .int 0] [] = _
  simp only [fC_ap, fVar_ap, fOp_ap, fB_ap, fAnd_ap, fOr_ap, fNot_ap, fAndV_ap, fOrV_ap, fNotV_ap, fIf_ap, fNil_ap, fCons_ap, fTup_ap, fLst_ap, fLstC_ap, fNoPart_ap, fPart_ap, fSl_ap, fNeg_ap, fCB_ap, fIsi_ap, fIsi2_ap, fNext_ap, fSeq_ap, fRet_ap, fRetF_ap, fgName_ap, fgNil_ap, fgCons_ap, fgTup_ap, fgSub_ap, fAsg_ap, fPar_ap, fPar3_ap, fDrop_ap, fApp_ap, fIfS_ap, fiSeq_ap, fiTup_ap, fiEnum_ap, fYes_ap, fCall_ap, fCall0_ap, fChain_ap, fBits_ap, fAddC_ap, fiAny_ap, Res.bind_ok, asB_ok, okO_some, bodyD, asB, iterOf, withLock_none, noErr_ok, wipeE, List.map_cons, List.map_nil, List.length_cons, List.length_nil, List.cons_append, List.nil_append, List.getElem?_cons_zero, List.getElem?_cons_succ, List.set_cons_zero, List.set_cons_succ, if_true, Bool.false_eq_true, if_false, Nat.reduceAdd, Nat.reduceSub, Nat.zero_add, List.replicate, tyD, atI_0, atI_1, lenD_lst, lenD_tup, ixD_tup, ixD_lst, eqD_int, eqD_str, neD_int, neD_str, leD_int, ltD_int, gtD_int, geD_int, addD_int, subD_int, intD_int, gx0, gx1, gx2, gs0, gs2, capN, Nat.zero_le, Nat.reduceLeDiff, Nat.reduceEqDiff, Nat.reduceLT, Bool.not_true, Bool.not_false, Bool.true_and, Bool.false_and, b__law_generator, e, p1, p2, p3, em, m1, m2, m3, gen]
/-! ### drawn rules -/
theorem fits_word {w : Str} {m : Nat} (h : PyData.strOk w = true) : fit (.tup [.str w]) (m + 1) = true := by
  simp only [fit, fits, h, Bool.and_self]
theorem isOrder_of {d : D} (h : isWord "on" d = true ∨ isWord "turns" d = true ∨ isWord "winner" d = true ∨ isWord "loser" d = true ∨ isRow d = true) : isOrder d = true := by
  unfold isOrder
  rcases h with h | h | h | h | h <;> simp [h]
end K1

set_option maxHeartbeats 2000000
namespace K1
open PySem PySem.Spec PyProof.Rows L2 DL
/-! ### how long a text of a drawn rule can be -/
def wordsR : List Str := ["race", "rally", "hand", "on", "turns", "winner", "loser", "row"]
mutual
def tiny : D → Bool
  | .non => true
  | .int i => decide (0 ≤ i) && decide (i < 64)
  | .str x => wordsR.contains x
  | .lst xs => tinys xs
  | .tup xs => tinys xs
  | _ => false
def tinys : List D → Bool
  | [] => true
  | d :: ds => tiny d && tinys ds
end
mutual
def bnd : D → Nat
  | .lst xs => bnds xs + 4
  | .tup xs => bnds xs + 4
  | _ => 8
def bnds : List D → Nat
  | [] => 0
  | d :: ds => bnd d + 2 + bnds ds
end
structure Dr (k : Nat) (d : D) : Prop where
  rule : isRuleN k d = true
  fit_ : fit d (3 * k + 2) = true
  tiny_ : tiny d = true
  bnd_ : bnd d ≤ 200 * 4 ^ k
structure Or (d : D) : Prop where
  ord : isOrder d = true
  fit_ : fit d 2 = true
  tiny_ : tiny d = true
  bnd_ : bnd d ≤ 60
/-- marks drawn in a block -/
theorem marks_ok {L : Sto} (hL : L.all coFree = true) {ρ : DL.Env} (hρ : ρ[0]? = some (some (.cel 0))) : ∀ (ds : List D) {n : Nat} {x : CO}, Gn n x → n + ds.length ≤ 1000000000 →
    ∃ y ys, compD (fgName 2) fYes (fCall 2 g__law_random (fCons (fVar 0) (fCons (fC (.int 2)) fNil))) ds ρ (x :: L) = .ok ys (y :: L) ∧ Gn (n + ds.length) y ∧ ys.length = ds.length ∧ ∀ v ∈ ys, v = .int 0 ∨ v = .int 1
  | [], n, x, G, _ => ⟨x, [], rfl, G, rfl, fun _ h => by cases h⟩
  | d :: ds, n, x, G, hn => by
    rw [List.length_cons] at hn
    obtain ⟨y, v, e, G2, v1, v2⟩ := random_ok G (by omega) hL (bd := 2) (by decide) (by decide)
    obtain ⟨z, ys, e2, G3, l, m⟩ := marks_ok hL hρ ds G2 (by omega)
    refine ⟨z, .int v :: ys, ?_, by rw [List.length_cons]; exact G3.up (by omega), by rw [List.length_cons, List.length_cons, l], fun w hw => ?_⟩
    · unfold compD
      have h0 : (ρ.set 2 (some d))[0]? = some (some (.cel 0)) := by rw [List.getElem?_set_ne (by decide)]; exact hρ
      have ev : fVar 0 (ρ.set 2 (some d)) (x :: L) = .ok (.cel 0) (x :: L) := by unfold fVar; rw [h0]
      simp only [fgName_ap, Res.bind_ok, fYes_ap, fCall_ap, fCons_ap, ev, fC_ap, fNil_ap, List.length_cons, List.length_nil, Nat.zero_add, Nat.reduceAdd, if_true, e, e2]
    · rcases List.mem_cons.mp hw with rfl | hw
      · have : v = 0 ∨ v = 1 := by omega
        rcases this with rfl | rfl
        · exact .inl rfl
        · exact .inr rfl
      · exact m w hw
theorem row_facts {ys : List D} (h1 : 1 ≤ ys.length) (h2 : ys.length ≤ 4) (m : ∀ v ∈ ys, v = .int 0 ∨ v = .int 1) : Or (.tup [.str "row", .lst ys]) := by
  have f0 : fits ys 0 = true := by
    rw [fits_all, List.all_eq_true]
    intro v hv
    rcases m v hv with rfl | rfl <;> rfl
  have a0 : ys.all (isBtw 0 1) = true := by
    rw [List.all_eq_true]
    intro v hv
    rcases m v hv with rfl | rfl <;> rfl
  have t0 : ∀ {ys : List D}, (∀ v ∈ ys, v = .int 0 ∨ v = .int 1) → tinys ys = true ∧ bnds ys = 10 * ys.length := by
    intro ys
    induction ys with
    | nil => exact fun _ => ⟨rfl, rfl⟩
    | cons y ys ih =>
      intro m
      obtain ⟨i1, i2⟩ := ih fun v hv => m v (List.mem_cons_of_mem _ hv)
      have e : tiny y = true ∧ bnd y = 8 := by
        rcases m y List.mem_cons_self with rfl | rfl <;> exact ⟨rfl, rfl⟩
      refine ⟨by simp only [tinys, e.1, i1, Bool.and_self], ?_⟩
      simp only [bnds, e.2, i2, List.length_cons]
      omega
  obtain ⟨t1, t2⟩ := t0 m
  refine ⟨isOrder_of (.inr (.inr (.inr (.inr ?_)))), ?_, ?_, ?_⟩
  · have c1 : decide (1 ≤ ys.length) = true := decide_eq_true h1
    have c2 : decide (ys.length ≤ 8) = true := decide_eq_true (by omega)
    simp only [isRow, c1, c2, a0, Bool.and_self]
    decide
  · simp only [fit, fits, f0, Bool.and_true]
    decide +kernel
  · simp only [tiny, tinys, t1, Bool.and_true]
    decide +kernel
  · simp only [bnd, bnds, t2]
    omega
theorem order_ok {n : Nat} {x : CO} {L : Sto} (G : Gn n x) (hn : n + 6 ≤ 1000000000) (hL : L.all coFree = true) : ∃ y d, g__law_order [.cel 0] (x :: L) = .ok d (y :: L) ∧ Gn (n + 6) y ∧ Or d := by
  obtain ⟨y, w, e, G2, mw⟩ := pick_ok G (by omega) hL (xs := [.str "on", .str "turns", .str "turns", .str "winner", .str "loser", .str "row"]) (by decide) (by decide) rfl
  have wd : ∀ s : Str, (s = "row") ∨ ((s == "row") = false ∧ PyData.strOk s = true ∧ wordsR.contains s = true ∧ (s = "on" ∨ s = "turns" ∨ s = "winner" ∨ s = "loser")) → True := fun _ _ => trivial
  by_cases c : w = .str "row"
  · subst c
    obtain ⟨z, q, e2, G3, mq⟩ := pick_ok G2 (by omega) hL (xs := [.int 1, .int 2, .int 2, .int 3, .int 4, .int 4]) (by decide) (by decide) rfl
    obtain ⟨j, rfl, j1, j2⟩ : ∃ j : Nat, q = .int j ∧ 1 ≤ j ∧ j ≤ 4 := by
      simp only [List.mem_cons, List.not_mem_nil, or_false] at mq
      rcases mq with rfl | rfl | rfl | rfl | rfl | rfl
      · exact ⟨1, rfl, by decide, by decide⟩
      · exact ⟨2, rfl, by decide, by decide⟩
      · exact ⟨2, rfl, by decide, by decide⟩
      · exact ⟨3, rfl, by decide, by decide⟩
      · exact ⟨4, rfl, by decide, by decide⟩
      · exact ⟨4, rfl, by decide, by decide⟩
    have lr : (rangeD 0 j).length = j := rangeD_len
    obtain ⟨u, ys, e3, G4, l, m⟩ := marks_ok hL (ρ := [some (.cel 0), some (.str "row"), none]) rfl (rangeD 0 j) G3 (by omega)
    rw [lr] at l G4
    refine ⟨u, .tup [.str "row", .lst ys], ?_, G4.up (by omega), row_facts (by omega) (by omega) m⟩
    have rf := row_facts (ys := ys) (by omega) (by omega) m
    refine bodyT_to (L := []) (T := u :: L) ?_ rfl (G4.all hL) (fit_nc rf.fit_)
    have it := fiRng1_nat (f := fCons (fCall 2 g__law_pick (fCons (fVar 0) (fCons (fLst (fCons (fC (.int 1)) (fCons (fC (.int 2)) (fCons (fC (.int 2)) (fCons (fC (.int 3)) (fCons (fC (.int 4)) (fCons (fC (.int 4)) fNil))))))) fNil))) fNil) (ρ := [some (.cel 0), some (.str "row"), none]) (S := y :: L) (S1 := z :: L) (j := j) (by simp only [fC_ap, fVar_ap, fOp_ap, fB_ap, fAnd_ap, fOr_ap, fNot_ap, fAndV_ap, fOrV_ap, fNotV_ap, fIf_ap, fNil_ap, fCons_ap, fTup_ap, fLst_ap, fLstC_ap, fNoPart_ap, fPart_ap, fSl_ap, fNeg_ap, fCB_ap, fIsi_ap, fIsi2_ap, fNext_ap, fSeq_ap, fRet_ap, fRetF_ap, fgName_ap, fgNil_ap, fgCons_ap, fgTup_ap, fgSub_ap, fAsg_ap, fPar_ap, fPar3_ap, fDrop_ap, fApp_ap, fIfS_ap, fiSeq_ap, fiTup_ap, fiEnum_ap, fYes_ap, fCall_ap, fCall0_ap, fChain_ap, fBits_ap, fAddC_ap, fiAny_ap, Res.bind_ok, asB_ok, okO_some, bodyD, asB, iterOf, withLock_none, noErr_ok, wipeE, List.map_cons, List.map_nil, List.length_cons, List.length_nil, List.cons_append, List.nil_append, List.getElem?_cons_zero, List.getElem?_cons_succ, List.set_cons_zero, List.set_cons_succ, if_true, Bool.false_eq_true, if_false, Nat.reduceAdd, Nat.reduceSub, Nat.zero_add, List.replicate, tyD, atI_0, atI_1, lenD_lst, lenD_tup, ixD_tup, ixD_lst, eqD_int, eqD_str, neD_int, neD_str, leD_int, ltD_int, gtD_int, geD_int, addD_int, subD_int, intD_int, gx0, gx1, gx2, gs0, gs2, capN, Nat.zero_le, Nat.reduceLeDiff, Nat.reduceEqDiff, Nat.reduceLT, Bool.not_true, Bool.not_false, Bool.true_and, Bool.false_and, e2]) (by omega)
    have lc := fLc_st (vs := [2]) (c := fYes) it (capN_of (by rw [lr]; omega)) e3
    simp only [fC_ap, fVar_ap, fOp_ap, fB_ap, fAnd_ap, fOr_ap, fNot_ap, fAndV_ap, fOrV_ap, fNotV_ap, fIf_ap, fNil_ap, fCons_ap, fTup_ap, fLst_ap, fLstC_ap, fNoPart_ap, fPart_ap, fSl_ap, fNeg_ap, fCB_ap, fIsi_ap, fIsi2_ap, fNext_ap, fSeq_ap, fRet_ap, fRetF_ap, fgName_ap, fgNil_ap, fgCons_ap, fgTup_ap, fgSub_ap, fAsg_ap, fPar_ap, fPar3_ap, fDrop_ap, fApp_ap, fIfS_ap, fiSeq_ap, fiTup_ap, fiEnum_ap, fYes_ap, fCall_ap, fCall0_ap, fChain_ap, fBits_ap, fAddC_ap, fiAny_ap, Res.bind_ok, asB_ok, okO_some, bodyD, asB, iterOf, withLock_none, noErr_ok, wipeE, List.map_cons, List.map_nil, List.length_cons, List.length_nil, List.cons_append, List.nil_append, List.getElem?_cons_zero, List.getElem?_cons_succ, List.set_cons_zero, List.set_cons_succ, if_true, Bool.false_eq_true, if_false, Nat.reduceAdd, Nat.reduceSub, Nat.zero_add, List.replicate, tyD, atI_0, atI_1, lenD_lst, lenD_tup, ixD_tup, ixD_lst, eqD_int, eqD_str, neD_int, neD_str, leD_int, ltD_int, gtD_int, geD_int, addD_int, subD_int, intD_int, gx0, gx1, gx2, gs0, gs2, capN, Nat.zero_le, Nat.reduceLeDiff, Nat.reduceEqDiff, Nat.reduceLT, Bool.not_true, Bool.not_false, Bool.true_and, Bool.false_and, b__law_order, e, lc, List.append_nil, decide_true]
  · have k1 : (isOrder w = isOrder w) := rfl
    obtain ⟨s, rfl, hs⟩ : ∃ s : Str, w = .str s ∧ (s = "on" ∨ s = "turns" ∨ s = "winner" ∨ s = "loser") := by
      simp only [List.mem_cons, List.not_mem_nil, or_false] at mw
      rcases mw with rfl | rfl | rfl | rfl | rfl | rfl
      · exact ⟨_, rfl, .inl rfl⟩
      · exact ⟨_, rfl, .inr (.inl rfl)⟩
      · exact ⟨_, rfl, .inr (.inl rfl)⟩
      · exact ⟨_, rfl, .inr (.inr (.inl rfl))⟩
      · exact ⟨_, rfl, .inr (.inr (.inr rfl))⟩
      · exact absurd rfl c
    have c2 : decide (s = "row") = false := decide_eq_false fun z => c (by rw [z])
    have o : Or (.tup [.str s]) := by
      rcases hs with rfl | rfl | rfl | rfl <;> exact ⟨by decide +kernel, by decide +kernel, by decide +kernel, by decide⟩
    refine ⟨y, .tup [.str s], ?_, G2.up (by omega), o⟩
    refine bodyT_to (L := []) (T := y :: L) ?_ rfl (G2.all hL) rfl
    simp only [fC_ap, fVar_ap, fOp_ap, fB_ap, fAnd_ap, fOr_ap, fNot_ap, fAndV_ap, fOrV_ap, fNotV_ap, fIf_ap, fNil_ap, fCons_ap, fTup_ap, fLst_ap, fLstC_ap, fNoPart_ap, fPart_ap, fSl_ap, fNeg_ap, fCB_ap, fIsi_ap, fIsi2_ap, fNext_ap, fSeq_ap, fRet_ap, fRetF_ap, fgName_ap, fgNil_ap, fgCons_ap, fgTup_ap, fgSub_ap, fAsg_ap, fPar_ap, fPar3_ap, fDrop_ap, fApp_ap, fIfS_ap, fiSeq_ap, fiTup_ap, fiEnum_ap, fYes_ap, fCall_ap, fCall0_ap, fChain_ap, fBits_ap, fAddC_ap, fiAny_ap, Res.bind_ok, asB_ok, okO_some, bodyD, asB, iterOf, withLock_none, noErr_ok, wipeE, List.map_cons, List.map_nil, List.length_cons, List.length_nil, List.cons_append, List.nil_append, List.getElem?_cons_zero, List.getElem?_cons_succ, List.set_cons_zero, List.set_cons_succ, if_true, Bool.false_eq_true, if_false, Nat.reduceAdd, Nat.reduceSub, Nat.zero_add, List.replicate, tyD, atI_0, atI_1, lenD_lst, lenD_tup, ixD_tup, ixD_lst, eqD_int, eqD_str, neD_int, neD_str, leD_int, ltD_int, gtD_int, geD_int, addD_int, subD_int, intD_int, gx0, gx1, gx2, gs0, gs2, capN, Nat.zero_le, Nat.reduceLeDiff, Nat.reduceEqDiff, Nat.reduceLT, Bool.not_true, Bool.not_false, Bool.true_and, Bool.false_and, b__law_order, e, c2, List.append_nil]
end K1

set_option maxHeartbeats 2000000
namespace K1
open PySem PySem.Spec PyProof.Rows L2 DL
def sc (k : Int × Int) : D := .tup [.int k.1, .int k.2]
def scP (k : Int × Int) : PyData := .tuple [.int k.1, .int k.2]
def spQ (q : (Int × Int) × D) : D := .tup [sc q.1, q.2]
theorem toPs_sc {S : Sto} : ∀ ks : List (Int × Int), toPs S (ks.map sc) = some (ks.map scP)
  | [] => rfl
  | k :: ks => by
    have e : toP S (sc k) = some (scP k) := rfl
    simp only [List.map_cons, toPs, e, toPs_sc ks]
theorem scP_eqv (k m : Int × Int) : PyData.eqv (scP k) (scP m) = decide (k = m) := by
  obtain ⟨a, b⟩ := k
  obtain ⟨c, d⟩ := m
  simp only [scP, PyData.eqv, PyData.eqvAll, Bool.and_true]
  by_cases e1 : a = c <;> by_cases e2 : b = d <;> simp [e1, e2]
theorem lay_sc : ∀ ks : List (Int × Int), PyData.canLayAll0 (ks.map scP) = true ∧ PyData.depthAll (ks.map scP) ≤ 1
  | [] => ⟨rfl, by simp [PyData.depthAll]⟩
  | k :: ks => by
    obtain ⟨h1, h2⟩ := lay_sc ks
    refine ⟨?_, ?_⟩
    · simp only [List.map_cons, PyData.canLayAll0, h1, Bool.and_true]
      rfl
    · have e : (scP k).depth = 1 := by simp [scP, PyData.depth, PyData.depthAll]
      simp only [List.map_cons, PyData.depthAll, e]
      omega
theorem shaped_sc (ks : List (Int × Int)) : SeqAt.shaped (.list (ks.map scP)) = true := by
  obtain ⟨h1, h2⟩ := lay_sc ks
  have e : (PyData.list (ks.map scP)).depth = PyData.depthAll (ks.map scP) + 1 := by simp only [PyData.depth]
  have c : (PyData.list (ks.map scP)).canLay0 = true := by simpa only [PyData.canLay0] using h1
  unfold SeqAt.shaped
  rw [c, e, Bool.true_and, decide_eq_true_eq]
  omega
theorem notIn_sc {S : Sto} (k : Int × Int) (ks : List (Int × Int)) : notInD (sc k) (.lst (ks.map sc)) S = some (.bl (!ks.contains k)) := by
  have e1 : toP S (sc k) = some (scP k) := rfl
  have e2 : toP S (.lst (ks.map sc)) = some (.list (ks.map scP)) := by simp only [toP, toPs_sc, Option.map_some]
  obtain ⟨l1, l2⟩ := lay_sc ks
  have s1 : SeqAt.shaped (scP k) = true := by
    unfold SeqAt.shaped
    simp [scP, PyData.canLay0, PyData.canLayAll0, PyData.depth, PyData.depthAll]
  have s2 : SeqAt.shaped (.list (ks.map scP)) = true := shaped_sc ks
  unfold notInD
  simp only [e1, e2, s1, s2, Bool.and_self, if_true]
  congr 2
  congr 1
  induction ks with
  | nil => rfl
  | cons m ks ih =>
    obtain ⟨l3, l4⟩ := lay_sc ks
    have s3 : SeqAt.shaped (.list (ks.map scP)) = true := shaped_sc ks
    have ih := ih (by simp only [toP, toPs_sc, Option.map_some]) l3 l4 s3
    rw [List.map_cons, List.any_cons, ih, scP_eqv, List.contains_cons]
    congr 1
    by_cases c : m = k
    · subst c
      simp
    · have c' : ¬ k = m := fun z => c z.symm
      simp [c, c']
def Dn : Nat → Nat
  | 0 => 2
  | k + 1 => 3 * Dn k + 30
def RuleDraw (f k : Nat) : Prop := ∀ {n : Nat} {x : CO} {L : Sto}, Gn n x → n + Dn k ≤ 1000000000 → L.all coFree = true →
  ∃ y d, g__law_rule f [.cel 0, .int k, .int 30] (x :: L) = .ok d (y :: L) ∧ Gn (n + Dn k) y ∧ Dr k d
theorem snoc_at {x c : CO} {L : Sto} : (x :: (L ++ [c]))[L.length + 1]? = some c := by simp
theorem snoc_set {x c c' : CO} {L : Sto} : (x :: (L ++ [c])).set (L.length + 1) c' = x :: (L ++ [c']) := by
  rw [List.set_cons_succ]
  congr 1
  induction L with
  | nil => rfl
  | cons a L ih => simpa using ih
structure Spq (k : Nat) (need : Int) (qs : List ((Int × Int) × D)) : Prop where
  nd : (qs.map (·.1)).Nodup
  at_ : ∀ q ∈ qs, 0 ≤ q.1.1 ∧ q.1.1 ≤ need ∧ 0 ≤ q.1.2 ∧ q.1.2 ≤ need ∧ Dr k q.2
theorem Spq.free {k : Nat} {need : Int} : ∀ {qs : List ((Int × Int) × D)}, Spq k need qs → noCels (qs.map spQ) = true
  | [], _ => rfl
  | q :: qs, h => by
    have i := Spq.free (qs := qs) ⟨(List.nodup_cons.mp (by simpa using h.nd)).2, fun r m => h.at_ r (List.mem_cons_of_mem _ m)⟩
    have f := fit_nc (h.at_ q List.mem_cons_self).2.2.2.2.fit_
    simp only [List.map_cons, noCels, i, Bool.and_true, spQ, sc, noCel, f]
def raceBody (g__law_random g__law_rule : GF) : FS := (fSeq (fAsg (fTup (fCons (fCall 2 g__law_random (fCons (fVar 0) (fCons (fOp addD (fVar 3) (fC (.int 1))) fNil))) (fCons (fCall 2 g__law_random (fCons (fVar 0) (fCons (fOp addD (fVar 3) (fC (.int 1))) fNil))) fNil))) (fgName 9)) (fIfS (fB (fOp notInD (fVar 9) (fLc [10, 11] (fiAny (fVar 6)) (fgTup 2 (fgCons (fgName 10) (fgCons (fgName 11) fgNil))) fYes (fVar 10)))) (fDrop (fApp (fVar 6) (fTup (fCons (fVar 9) (fCons (fCall 3 g__law_rule (fCons (fVar 0) (fCons (fOp subD (fVar 1) (fC (.int 1))) (fCons (fVar 2) fNil)))) fNil))))) fNext))
def raceIt (g__law_pick : GF) : FI := (fiRng1 (fCons (fCall 2 g__law_pick (fCons (fVar 0) (fCons (fLst (fCons (fC (.int 0)) (fCons (fC (.int 0)) (fCons (fC (.int 0)) (fCons (fC (.int 1)) (fCons (fC (.int 2)) fNil)))))) fNil))) fNil))
def rho (k : Nat) (need lead : Int) (cap : D) (j : Nat) (unit : D) (t s p q : Option D) : DL.Env := [some (.cel 0), some (.int ((k + 1 : Nat) : Int)), some (.int 30), some (.int need), some (.int lead), some cap, some (.cel j), some unit, t, s, p, q]
theorem race_step {f k n : Nat} (H : RuleDraw f k) {x : CO} {L : Sto} {qs : List ((Int × Int) × D)} {need lead : Int} {cap unit t : D} {s p q : Option D} (G : Gn n x) (hn : n + (Dn k + 2) ≤ 1000000000) (hL : L.all coFree = true) (hq : Spq k need qs)
    (n1 : 1 ≤ need) (n2 : need ≤ 30) (few : qs.length ≤ 1000) :
    ∃ y qs' s', raceBody g__law_random (g__law_rule f) (rho k need lead cap (L.length + 1) unit (some t) s p q) (x :: (L ++ [.lst (qs.map spQ)])) = .ok (.nx, rho k need lead cap (L.length + 1) unit (some t) (some s') p q) (y :: (L ++ [.lst (qs'.map spQ)])) ∧
      Gn (n + (Dn k + 2)) y ∧ Spq k need qs' ∧ qs'.length ≤ qs.length + 1 := by
  have hL2 : (L ++ [CO.lst (qs.map spQ)]).all coFree = true := by
    rw [List.all_append, hL]
    simp [coFree, hq.free]
  obtain ⟨y1, a, e1, G1, a1, a2⟩ := random_ok G (by omega) hL2 (bd := need + 1) (by omega) (by omega)
  obtain ⟨y2, b, e2, G2, b1, b2⟩ := random_ok G1 (by omega) hL2 (bd := need + 1) (by omega) (by omega)
  have pl := fLc_cell (vs := [10, 11]) (fi := fiAny (fVar 6)) (g := fgTup 2 (fgCons (fgName 10) (fgCons (fgName 11) fgNil))) (c := fYes) (el := fVar 10) (ρ := rho k need lead cap (L.length + 1) unit (some t) (some (sc (a, b))) p q) (S := y2 :: (L ++ [.lst (qs.map spQ)])) (xs := qs.map spQ) (j := L.length + 1)
    (fun _ => true) (fun d => match d with
      | .tup [z, _] => z
      | d => d) (by simp only [fC_ap, fVar_ap, fOp_ap, fB_ap, fAnd_ap, fOr_ap, fNot_ap, fAndV_ap, fOrV_ap, fNotV_ap, fIf_ap, fNil_ap, fCons_ap, fTup_ap, fLst_ap, fLstC_ap, fNoPart_ap, fPart_ap, fSl_ap, fNeg_ap, fCB_ap, fIsi_ap, fIsi2_ap, fNext_ap, fSeq_ap, fRet_ap, fRetF_ap, fgName_ap, fgNil_ap, fgCons_ap, fgTup_ap, fgSub_ap, fAsg_ap, fPar_ap, fPar3_ap, fDrop_ap, fApp_ap, fIfS_ap, fiSeq_ap, fiTup_ap, fiEnum_ap, fYes_ap, fCall_ap, fCall0_ap, fChain_ap, fBits_ap, fAddC_ap, fiAny_ap, Res.bind_ok, asB_ok, okO_some, bodyD, asB, iterOf, withLock_none, noErr_ok, wipeE, List.map_cons, List.map_nil, List.length_cons, List.length_nil, List.cons_append, List.nil_append, List.getElem?_cons_zero, List.getElem?_cons_succ, List.set_cons_zero, List.set_cons_succ, if_true, Bool.false_eq_true, if_false, Nat.reduceAdd, Nat.reduceSub, Nat.zero_add, List.replicate, tyD, atI_0, atI_1, lenD_lst, lenD_tup, ixD_tup, ixD_lst, eqD_int, eqD_str, neD_int, neD_str, leD_int, ltD_int, gtD_int, geD_int, addD_int, subD_int, intD_int, gx0, gx1, gx2, gs0, gs2, capN, Nat.zero_le, Nat.reduceLeDiff, Nat.reduceEqDiff, Nat.reduceLT, Bool.not_true, Bool.not_false, Bool.true_and, Bool.false_and, rho, lstOf, snoc_get, Option.map_some]) (capN_of (by rw [List.length_map]; omega)) snoc_at (fun d m => by
        obtain ⟨z, m, rfl⟩ := List.mem_map.mp m
        refine ⟨_, rfl, rfl, fun _ => rfl⟩)
  have pl2 : (((qs.map spQ).filter fun _ => true).map fun d => match d with
      | .tup [z, _] => z
      | d => d) = (qs.map (·.1)).map sc := by
    rw [List.filter_eq_self.mpr (fun _ _ => rfl), List.map_map, List.map_map]
    rfl
  rw [pl2] at pl
  have ni := notIn_sc (S := y2 :: (L ++ [.lst (qs.map spQ)])) (a, b) (qs.map (·.1))
  cases cq : (qs.map (·.1)).contains (a, b) with
  | true =>
    rw [cq] at ni
    refine ⟨y2, qs, sc (a, b), ?_, G2.up (by omega), hq, by omega⟩
    unfold rho sc at *
    simp only [raceBody, fC_ap, fVar_ap, fOp_ap, fB_ap, fAnd_ap, fOr_ap, fNot_ap, fAndV_ap, fOrV_ap, fNotV_ap, fIf_ap, fNil_ap, fCons_ap, fTup_ap, fLst_ap, fLstC_ap, fNoPart_ap, fPart_ap, fSl_ap, fNeg_ap, fCB_ap, fIsi_ap, fIsi2_ap, fNext_ap, fSeq_ap, fRet_ap, fRetF_ap, fgName_ap, fgNil_ap, fgCons_ap, fgTup_ap, fgSub_ap, fAsg_ap, fPar_ap, fPar3_ap, fDrop_ap, fApp_ap, fIfS_ap, fiSeq_ap, fiTup_ap, fiEnum_ap, fYes_ap, fCall_ap, fCall0_ap, fChain_ap, fBits_ap, fAddC_ap, fiAny_ap, Res.bind_ok, asB_ok, okO_some, bodyD, asB, iterOf, withLock_none, noErr_ok, wipeE, List.map_cons, List.map_nil, List.length_cons, List.length_nil, List.cons_append, List.nil_append, List.getElem?_cons_zero, List.getElem?_cons_succ, List.set_cons_zero, List.set_cons_succ, if_true, Bool.false_eq_true, if_false, Nat.reduceAdd, Nat.reduceSub, Nat.zero_add, List.replicate, tyD, atI_0, atI_1, lenD_lst, lenD_tup, ixD_tup, ixD_lst, eqD_int, eqD_str, neD_int, neD_str, leD_int, ltD_int, gtD_int, geD_int, addD_int, subD_int, intD_int, gx0, gx1, gx2, gs0, gs2, capN, Nat.zero_le, Nat.reduceLeDiff, Nat.reduceEqDiff, Nat.reduceLT, Bool.not_true, Bool.not_false, Bool.true_and, Bool.false_and, e1, e2, pl, ni]
  | false =>
    rw [cq] at ni
    obtain ⟨y3, r, e3, G3, dr⟩ := H G2 (by omega) hL2
    refine ⟨y3, qs ++ [((a, b), r)], sc (a, b), ?_, G3.up (by omega), ⟨?_, ?_⟩, by simp⟩
    · have ek : (((k + 1 : Nat) : Int)) - 1 = (k : Nat) := by omega
      have ap : appD (.cel (L.length + 1)) (.tup [.tup [.int a, .int b], r]) (y3 :: (L ++ [.lst (qs.map spQ)])) = some (y3 :: (L ++ [.lst ((qs ++ [((a, b), r)]).map spQ)])) := by
        unfold appD
        have lt : (qs.map spQ).length < capN := capN_of (by rw [List.length_map]; omega)
        simp only [List.getElem?_cons_succ, snoc_get, lt, if_true, snoc_set, List.map_append, List.map_cons, List.map_nil]
        rfl
      have ls : lstOf (y2 :: (L ++ [.lst (qs.map spQ)])) (.cel (L.length + 1)) = some (qs.map spQ) := by
        simp only [lstOf, List.getElem?_cons_succ, snoc_get]
      unfold rho sc at *
      simp only [raceBody, fC_ap, fVar_ap, fOp_ap, fB_ap, fAnd_ap, fOr_ap, fNot_ap, fAndV_ap, fOrV_ap, fNotV_ap, fIf_ap, fNil_ap, fCons_ap, fTup_ap, fLst_ap, fLstC_ap, fNoPart_ap, fPart_ap, fSl_ap, fNeg_ap, fCB_ap, fIsi_ap, fIsi2_ap, fNext_ap, fSeq_ap, fRet_ap, fRetF_ap, fgName_ap, fgNil_ap, fgCons_ap, fgTup_ap, fgSub_ap, fAsg_ap, fPar_ap, fPar3_ap, fDrop_ap, fApp_ap, fIfS_ap, fiSeq_ap, fiTup_ap, fiEnum_ap, fYes_ap, fCall_ap, fCall0_ap, fChain_ap, fBits_ap, fAddC_ap, fiAny_ap, Res.bind_ok, asB_ok, okO_some, bodyD, asB, iterOf, withLock_none, noErr_ok, wipeE, List.map_cons, List.map_nil, List.length_cons, List.length_nil, List.cons_append, List.nil_append, List.getElem?_cons_zero, List.getElem?_cons_succ, List.set_cons_zero, List.set_cons_succ, if_true, Bool.false_eq_true, if_false, Nat.reduceAdd, Nat.reduceSub, Nat.zero_add, List.replicate, tyD, atI_0, atI_1, lenD_lst, lenD_tup, ixD_tup, ixD_lst, eqD_int, eqD_str, neD_int, neD_str, leD_int, ltD_int, gtD_int, geD_int, addD_int, subD_int, intD_int, gx0, gx1, gx2, gs0, gs2, capN, Nat.zero_le, Nat.reduceLeDiff, Nat.reduceEqDiff, Nat.reduceLT, Bool.not_true, Bool.not_false, Bool.true_and, Bool.false_and, e1, e2, pl, ni, ls, ek, e3, ap]
    · rw [List.map_append, List.nodup_append]
      refine ⟨hq.nd, by simp, fun u hu v hv => ?_⟩
      simp only [List.map_cons, List.map_nil, List.mem_singleton] at hv
      subst hv
      intro z
      subst z
      rw [List.contains_iff_mem.mpr hu] at cq
      cases cq
    · intro q hm
      rcases List.mem_append.mp hm with hm | hm
      · exact hq.at_ q hm
      · rw [List.mem_singleton] at hm
        subst hm
        exact ⟨a1, by show a ≤ need; omega, b1, by show b ≤ need; omega, dr⟩
theorem race_loop {f k : Nat} (H : RuleDraw f k) {L : Sto} {need lead : Int} {cap unit : D} {p q : Option D} (hL : L.all coFree = true) (n1 : 1 ≤ need) (n2 : need ≤ 30) : ∀ (ds : List D) {n : Nat} {x : CO} {qs : List ((Int × Int) × D)} {t s : Option D}, Gn n x → n + ds.length * (Dn k + 2) ≤ 1000000000 → Spq k need qs → qs.length + ds.length ≤ 1000 →
    ∃ y qs' t' s', loopD (fgName 8) (raceBody g__law_random (g__law_rule f)) ds (rho k need lead cap (L.length + 1) unit t s p q) (x :: (L ++ [.lst (qs.map spQ)])) = .ok (.nx, rho k need lead cap (L.length + 1) unit t' s' p q) (y :: (L ++ [.lst (qs'.map spQ)])) ∧
      Gn (n + ds.length * (Dn k + 2)) y ∧ Spq k need qs' ∧ qs'.length ≤ qs.length + ds.length
  | [], n, x, qs, t, s, G, hn, hq, few => ⟨x, qs, t, s, rfl, by simpa using G, hq, by simp⟩
  | d :: ds, n, x, qs, t, s, G, hn, hq, few => by
    rw [List.length_cons, Nat.succ_mul] at hn
    rw [List.length_cons] at few
    obtain ⟨y, qs1, s1, e1, G1, h1, l1⟩ := race_step (lead := lead) (cap := cap) (unit := unit) (t := d) (s := s) (p := p) (q := q) H G (by omega) hL hq n1 n2 (by omega)
    obtain ⟨z, qs2, t2, s2, e2, G2, h2, l2⟩ := race_loop (lead := lead) (cap := cap) (unit := unit) (p := p) (q := q) H hL n1 n2 ds (t := some d) (s := some s1) G1 (by omega) h1 (by omega)
    refine ⟨z, qs2, t2, s2, ?_, by rw [List.length_cons, Nat.succ_mul]; exact G2.up (by omega), h2, by rw [List.length_cons]; omega⟩
    unfold loopD
    have st : fgName 8 d (rho k need lead cap (L.length + 1) unit t s p q) (x :: (L ++ [.lst (qs.map spQ)])) = .ok (rho k need lead cap (L.length + 1) unit (some d) s p q) (x :: (L ++ [.lst (qs.map spQ)])) := rfl
    rw [st]
    simp only [Res.bind_ok, e1, e2]
end K1

set_option maxHeartbeats 2000000
namespace K1
open PySem PySem.Spec PyProof.Rows L2 DL
theorem geI_lex (a b c d : Int) : geI [a, b] [c, d] = !SrtO.lexB (a, b) (c, d) := by
  unfold SrtO.lexB
  have e : geI [a, b] [c, d] = (if decide (a = c) = true then (if decide (b = d) = true then true else decide (d ≤ b)) else decide (c ≤ a)) := rfl
  rw [e]
  by_cases h1 : a = c
  · subst h1
    by_cases h2 : b = d
    · subst h2
      simp
    · simp only [h2, decide_true, decide_false, if_true, Bool.false_eq_true, if_false]
      by_cases h3 : d ≤ b
      · simp [h3]
      · simp [h3]
        omega
  · simp only [h1, decide_false, Bool.false_eq_true, if_false]
    by_cases h3 : c ≤ a
    · simp [h3]
    · simp [h3]
      omega
theorem race_up {r r' : D → Bool} (h : ∀ d, r d = true → r' d = true) : ∀ d, isRace r d = true → isRace r' d = true := fun d => by
  unfold isRace
  split
  · simp only [Bool.and_eq_true]
    rintro ⟨⟨h1, h2⟩, h3, h4⟩
    refine ⟨⟨h1, h2⟩, h _ h3, ?_⟩
    unfold isSpecs at *
    split at h4
    · simp only [Bool.and_eq_true, List.all_eq_true] at h4 ⊢
      refine ⟨⟨h4.1.1, fun x m => ?_⟩, h4.2⟩
      have := h4.1.2 x m
      unfold isSpec at *
      split at this
      · simp only [Bool.and_eq_true] at this ⊢
        exact ⟨this.1, h _ this.2⟩
      · cases this
    · cases h4
  · exact fun z => nomatch z
theorem rule_up : ∀ {k : Nat} {d : D}, isRuleN k d = true → isRuleN (k + 1) d = true := by
  intro k
  induction k with
  | zero =>
    intro d h
    simp only [isRuleN, Bool.or_eq_true] at h ⊢
    exact .inl h
  | succ k ih =>
    intro d h
    simp only [isRuleN, Bool.or_eq_true] at h ⊢
    rcases h with h | h
    · exact .inl h
    · exact .inr (race_up (fun d h => by simpa only [isRuleN, Bool.or_eq_true] using ih h) d h)
theorem rule_le {k m : Nat} {d : D} (h : isRuleN k d = true) (l : k ≤ m) : isRuleN m d = true := by
  induction l with
  | refl => exact h
  | step _ ih => exact rule_up ih
theorem Dr.up {k : Nat} {d : D} (h : Dr k d) : Dr (k + 1) d :=
  ⟨rule_up h.rule, fit_up (by omega) h.fit_, h.tiny_, by have := h.bnd_; rw [Nat.pow_succ]; omega⟩
theorem Dr.zero_le {k : Nat} {d : D} (h : Dr 0 d) : Dr k d := by
  induction k with
  | zero => exact h
  | succ k ih => exact ih.up
/-- what drawn specials are, sorted -/
theorem specs_of {k : Nat} (hk : k ≤ 4) {need : Int} (n2 : need ≤ 30) {qs : List ((Int × Int) × D)} (h : Spq k need qs) (l : qs.length ≤ 2) {S : Sto} {j : Nat} (hj : S[j]? = some (.lst (qs.map spQ))) :
    ∃ xs, sortedD [.cel j] S = some (.lst xs) ∧ isSpecs (isRuleN k) (.lst xs) = true ∧ fits xs (3 * k + 3) = true ∧ tinys xs = true ∧ bnds xs ≤ 2 * (200 * 4 ^ k + 34) := by
  have one : ∀ q ∈ qs, isSpec (isRuleN k) (spQ q) = true ∧ fit (spQ q) (3 * k + 3) = true ∧ tiny (spQ q) = true ∧ bnd (spQ q) + 2 ≤ 200 * 4 ^ k + 34 ∧ keyedOk S (spQ q) = true ∧ keyD (spQ q) = q.1 ∧ key1 (spQ q) = [q.1.1, q.1.2] := fun q hq => by
    obtain ⟨a1, a2, b1, b2, dr⟩ := h.at_ q hq
    obtain ⟨⟨a, b⟩, r⟩ := q
    simp only at a1 a2 b1 b2 dr
    refine ⟨?_, ?_, ?_, ?_, ?_, rfl, rfl⟩
    · simp only [isSpec, spQ, sc, isScore, isCount, lowS, dr.rule, Bool.and_true, Bool.and_eq_true, decide_eq_true_eq]
      omega
    · have f1 : fit (sc (a, b)) (3 * k + 2) = true := by simp [sc, fit, fits]
      show fits [sc (a, b), r] (3 * k + 2) = true
      simp only [fits, f1, dr.fit_, Bool.and_self]
    · simp only [spQ, sc, tiny, tinys, dr.tiny_, Bool.and_true, Bool.and_eq_true, decide_eq_true_eq]
      omega
    · have := dr.bnd_
      simp only [spQ, sc, bnd, bnds]
      omega
    · obtain ⟨p, hp, hs⟩ := fit_shaped (S := S) dr.fit_ (by omega)
      simp only [keyedOk, spQ, sc, hp, hs]
  have sq : seqOf S (.cel j) = some (qs.map spQ) := by simp only [seqOf, lstOf, hj]
  unfold sortedD
  simp only [sq]
  match qs, h, l, one with
  | [], _, _, _ => exact ⟨[], rfl, by rfl, rfl, rfl, by simp [bnds]⟩
  | [q], _, _, one =>
    obtain ⟨o1, o2, o3, o4, o5, o6, o7⟩ := one q List.mem_cons_self
    refine ⟨[spQ q], ?_, ?_, ?_, ?_, ?_⟩
    · have i0 : intsOf [spQ q] = none := rfl
      simp only [List.map_cons, List.map_nil, i0, List.all_cons, List.all_nil, o5, Bool.and_true, List.nodup_cons, List.not_mem_nil, not_false_eq_true, List.nodup_nil, and_self, decide_true, if_true]
      rfl
    · simp only [isSpecs, List.all_cons, List.all_nil, o1]
      rfl
    · simp only [fits, o2, Bool.and_self]
    · simp only [tinys, o3, Bool.and_self]
    · simp only [bnds]
      omega
  | [q, r], h, _, one =>
    obtain ⟨o1, o2, o3, o4, o5, o6, o7⟩ := one q List.mem_cons_self
    obtain ⟨p1, p2, p3, p4, p5, p6, p7⟩ := one r (List.mem_cons_of_mem _ List.mem_cons_self)
    have i0 : intsOf [spQ q, spQ r] = none := rfl
    have nd : q.1 ≠ r.1 := by
      have := h.nd
      simp only [List.map_cons, List.map_nil, List.nodup_cons, List.mem_singleton] at this
      exact this.1
    have nd2 : ([spQ q, spQ r].map keyD).Nodup := by
      simp only [List.map_cons, List.map_nil, o6, p6, List.nodup_cons, List.mem_singleton, List.not_mem_nil, not_false_eq_true, List.nodup_nil, and_true]
      exact nd
    have sb : sortBy keyD [spQ q, spQ r] = if SrtO.lexB r.1 q.1 then [spQ r, spQ q] else [spQ q, spQ r] := by
      show (if SrtO.lexB (keyD (spQ r)) (keyD (spQ q)) then _ else _) = _
      rw [o6, p6]
      rfl
    have key : ∀ u v : (Int × Int) × D, SrtO.lexB u.1 v.1 = true → key1 (spQ u) = [u.1.1, u.1.2] → key1 (spQ v) = [v.1.1, v.1.2] → rising [spQ u, spQ v] = true := fun u v hl k1 k2 => by
      have e : rising [spQ u, spQ v] = (!geI (key1 (spQ u)) (key1 (spQ v)) && true) := rfl
      rw [e, k1, k2, geI_lex, hl]
      rfl
    simp only [List.map_cons, List.map_nil, i0, List.all_cons, List.all_nil, o5, p5, Bool.and_true, Bool.true_and]
    have nd3 : decide ([keyD (spQ q), keyD (spQ r)].Nodup) = true := decide_eq_true nd2
    rw [nd3, if_pos rfl, sb]
    by_cases c : SrtO.lexB r.1 q.1 = true
    · rw [if_pos c]
      refine ⟨[spQ r, spQ q], rfl, ?_, ?_, ?_, ?_⟩
      · simp only [isSpecs, List.all_cons, List.all_nil, o1, p1, key r q c p7 o7]
        rfl
      · simp only [fits, o2, p2, Bool.and_self]
      · simp only [tinys, o3, p3, Bool.and_self]
      · simp only [bnds]
        omega
    · have c' : SrtO.lexB q.1 r.1 = true := by
        have h1 := SrtO.lexB_no.mp (Bool.not_eq_true _ ▸ c)
        refine SrtO.lexB_iff.mpr ?_
        by_cases e1 : q.1.1 = r.1.1
        · by_cases e2 : q.1.2 = r.1.2
          · exact absurd (Prod.ext e1 e2) nd
          · omega
        · omega
      rw [if_neg c]
      refine ⟨[spQ q, spQ r], rfl, ?_, ?_, ?_, ?_⟩
      · simp only [isSpecs, List.all_cons, List.all_nil, o1, p1, key q r c' o7 p7]
        rfl
      · simp only [fits, o2, p2, Bool.and_self]
      · simp only [tinys, o3, p3, Bool.and_self]
      · simp only [bnds]
        omega
def raceTail (g__law_order : GF) : FS := (fRet (fTup (fCons (fC (.str "race")) (fCons (fVar 3) (fCons (fVar 4) (fCons (fVar 5) (fCons (fCall 1 g__law_order (fCons (fVar 0) fNil)) (fCons (fVar 7) (fCons (fCB sortedD (fCons (fVar 6) fNil)) fNil)))))))))
theorem race_ok {f k : Nat} (hk : k ≤ 3) (H : RuleDraw f k) {n : Nat} {x : CO} {L : Sto} (G : Gn n x) (hn : n + (3 * Dn k + 20) ≤ 1000000000) (hL : L.all coFree = true) :
    ∃ y d, g__law_race (f + 1) [.cel 0, .int ((k + 1 : Nat) : Int), .int 30] (x :: L) = .ok d (y :: L) ∧ Gn (n + (3 * Dn k + 20)) y ∧ Dr (k + 1) d := by
  obtain ⟨y1, r1, e1, G1, a1, a2⟩ := random_ok G (by omega) hL (bd := 30) (by decide) (by decide)
  obtain ⟨y2, d2, e2, G2, m2⟩ := pick_ok G1 (by omega) hL (xs := [.int 1, .int 1, .int 1, .int 2, .int 2, .int 3]) (by decide) (by decide) rfl
  obtain ⟨lead, rfl, l1, l2⟩ : ∃ i : Int, d2 = .int i ∧ 1 ≤ i ∧ i ≤ 3 := by
    simp only [List.mem_cons, List.not_mem_nil, or_false] at m2
    rcases m2 with rfl | rfl | rfl | rfl | rfl | rfl <;> exact ⟨_, rfl, by decide, by decide⟩
  obtain ⟨y3, r3, e3, G3, c1, c2⟩ := random_ok G2 (by omega) hL (bd := 3) (by decide) (by decide)
  -- the cap
  obtain ⟨y4, cap, e4, G4, hcap⟩ : ∃ y4 cap, (∀ t s p q : Option D, fIfS (fB (fOp eqD (fCall 2 g__law_random (fCons (fVar 0) (fCons (fC (.int 3)) fNil))) (fC (.int 0)))) (fAsg (fOp addD (fVar 3) (fCall 2 g__law_random (fCons (fVar 0) (fCons (fC (.int 3)) fNil)))) (fgName 5)) fNext
      [some (.cel 0), some (.int ((k + 1 : Nat) : Int)), some (.int 30), some (.int (1 + r1)), some (.int lead), some .non, none, none, none, none, none, none] (y2 :: L) = .ok (.nx, [some (.cel 0), some (.int ((k + 1 : Nat) : Int)), some (.int 30), some (.int (1 + r1)), some (.int lead), some cap, none, none, none, none, none, none]) (y4 :: L)) ∧
      Gn (n + 4) y4 ∧ (cap = .non ∨ ∃ c : Int, cap = .int c ∧ 1 + r1 ≤ c ∧ c ≤ 32) := by
    by_cases z : r3 = 0
    · obtain ⟨y4, r4, e4, G4, d1, d2⟩ := random_ok G3 (by omega) hL (bd := 3) (by decide) (by decide)
      refine ⟨y4, .int (1 + r1 + r4), fun t s p q => ?_, G4.up (by omega), .inr ⟨_, rfl, by omega, by omega⟩⟩
      have z' : decide (r3 = 0) = true := decide_eq_true z
      simp only [fC_ap, fVar_ap, fOp_ap, fB_ap, fAnd_ap, fOr_ap, fNot_ap, fAndV_ap, fOrV_ap, fNotV_ap, fIf_ap, fNil_ap, fCons_ap, fTup_ap, fLst_ap, fLstC_ap, fNoPart_ap, fPart_ap, fSl_ap, fNeg_ap, fCB_ap, fIsi_ap, fIsi2_ap, fNext_ap, fSeq_ap, fRet_ap, fRetF_ap, fgName_ap, fgNil_ap, fgCons_ap, fgTup_ap, fgSub_ap, fAsg_ap, fPar_ap, fPar3_ap, fDrop_ap, fApp_ap, fIfS_ap, fiSeq_ap, fiTup_ap, fiEnum_ap, fYes_ap, fCall_ap, fCall0_ap, fChain_ap, fBits_ap, fAddC_ap, fiAny_ap, Res.bind_ok, asB_ok, okO_some, bodyD, asB, iterOf, withLock_none, noErr_ok, wipeE, List.map_cons, List.map_nil, List.length_cons, List.length_nil, List.cons_append, List.nil_append, List.getElem?_cons_zero, List.getElem?_cons_succ, List.set_cons_zero, List.set_cons_succ, if_true, Bool.false_eq_true, if_false, Nat.reduceAdd, Nat.reduceSub, Nat.zero_add, List.replicate, tyD, atI_0, atI_1, lenD_lst, lenD_tup, ixD_tup, ixD_lst, eqD_int, eqD_str, neD_int, neD_str, leD_int, ltD_int, gtD_int, geD_int, addD_int, subD_int, intD_int, gx0, gx1, gx2, gs0, gs2, capN, Nat.zero_le, Nat.reduceLeDiff, Nat.reduceEqDiff, Nat.reduceLT, Bool.not_true, Bool.not_false, Bool.true_and, Bool.false_and, e3, z', e4]
    · refine ⟨y3, .non, fun t s p q => ?_, G3.up (by omega), .inl rfl⟩
      have z' : decide (r3 = 0) = false := decide_eq_false z
      simp only [fC_ap, fVar_ap, fOp_ap, fB_ap, fAnd_ap, fOr_ap, fNot_ap, fAndV_ap, fOrV_ap, fNotV_ap, fIf_ap, fNil_ap, fCons_ap, fTup_ap, fLst_ap, fLstC_ap, fNoPart_ap, fPart_ap, fSl_ap, fNeg_ap, fCB_ap, fIsi_ap, fIsi2_ap, fNext_ap, fSeq_ap, fRet_ap, fRetF_ap, fgName_ap, fgNil_ap, fgCons_ap, fgTup_ap, fgSub_ap, fAsg_ap, fPar_ap, fPar3_ap, fDrop_ap, fApp_ap, fIfS_ap, fiSeq_ap, fiTup_ap, fiEnum_ap, fYes_ap, fCall_ap, fCall0_ap, fChain_ap, fBits_ap, fAddC_ap, fiAny_ap, Res.bind_ok, asB_ok, okO_some, bodyD, asB, iterOf, withLock_none, noErr_ok, wipeE, List.map_cons, List.map_nil, List.length_cons, List.length_nil, List.cons_append, List.nil_append, List.getElem?_cons_zero, List.getElem?_cons_succ, List.set_cons_zero, List.set_cons_succ, if_true, Bool.false_eq_true, if_false, Nat.reduceAdd, Nat.reduceSub, Nat.zero_add, List.replicate, tyD, atI_0, atI_1, lenD_lst, lenD_tup, ixD_tup, ixD_lst, eqD_int, eqD_str, neD_int, neD_str, leD_int, ltD_int, gtD_int, geD_int, addD_int, subD_int, intD_int, gx0, gx1, gx2, gs0, gs2, capN, Nat.zero_le, Nat.reduceLeDiff, Nat.reduceEqDiff, Nat.reduceLT, Bool.not_true, Bool.not_false, Bool.true_and, Bool.false_and, e3, z']
  -- the unit
  have hL0 : (L ++ [CO.lst []]).all coFree = true := by
    rw [List.all_append, hL]
    rfl
  obtain ⟨y5, unit, e5, G5, du⟩ := H G4 (by omega) hL0
  obtain ⟨y6, d6, e6, G6, m6⟩ := pick_ok G5 (by omega) hL0 (xs := [.int 0, .int 0, .int 0, .int 1, .int 2]) (by decide) (by decide) rfl
  obtain ⟨j, rfl, hj⟩ : ∃ j : Nat, d6 = .int j ∧ j ≤ 2 := by
    simp only [List.mem_cons, List.not_mem_nil, or_false] at m6
    rcases m6 with rfl | rfl | rfl | rfl | rfl
    · exact ⟨0, rfl, by decide⟩
    · exact ⟨0, rfl, by decide⟩
    · exact ⟨0, rfl, by decide⟩
    · exact ⟨1, rfl, by decide⟩
    · exact ⟨2, rfl, by decide⟩
  have it : raceIt g__law_pick (rho k (1 + r1) lead cap (L.length + 1) unit none none none none) (y5 :: (L ++ [.lst []])) = .ok ⟨rangeD 0 j, none⟩ (y6 :: (L ++ [.lst []])) :=
    fiRng1_nat (by simp only [fC_ap, fVar_ap, fOp_ap, fB_ap, fAnd_ap, fOr_ap, fNot_ap, fAndV_ap, fOrV_ap, fNotV_ap, fIf_ap, fNil_ap, fCons_ap, fTup_ap, fLst_ap, fLstC_ap, fNoPart_ap, fPart_ap, fSl_ap, fNeg_ap, fCB_ap, fIsi_ap, fIsi2_ap, fNext_ap, fSeq_ap, fRet_ap, fRetF_ap, fgName_ap, fgNil_ap, fgCons_ap, fgTup_ap, fgSub_ap, fAsg_ap, fPar_ap, fPar3_ap, fDrop_ap, fApp_ap, fIfS_ap, fiSeq_ap, fiTup_ap, fiEnum_ap, fYes_ap, fCall_ap, fCall0_ap, fChain_ap, fBits_ap, fAddC_ap, fiAny_ap, Res.bind_ok, asB_ok, okO_some, bodyD, asB, iterOf, withLock_none, noErr_ok, wipeE, List.map_cons, List.map_nil, List.length_cons, List.length_nil, List.cons_append, List.nil_append, List.getElem?_cons_zero, List.getElem?_cons_succ, List.set_cons_zero, List.set_cons_succ, if_true, Bool.false_eq_true, if_false, Nat.reduceAdd, Nat.reduceSub, Nat.zero_add, List.replicate, tyD, atI_0, atI_1, lenD_lst, lenD_tup, ixD_tup, ixD_lst, eqD_int, eqD_str, neD_int, neD_str, leD_int, ltD_int, gtD_int, geD_int, addD_int, subD_int, intD_int, gx0, gx1, gx2, gs0, gs2, capN, Nat.zero_le, Nat.reduceLeDiff, Nat.reduceEqDiff, Nat.reduceLT, Bool.not_true, Bool.not_false, Bool.true_and, Bool.false_and, rho, e6]) (by omega)
  have lr : (rangeD 0 j).length = j := rangeD_len
  obtain ⟨y7, qs, t, s, e7, G7, hq, lq⟩ := race_loop H (lead := lead) (cap := cap) (unit := unit) (p := none) (q := none) hL (need := 1 + r1) (by omega) (by omega) (rangeD 0 j) (qs := []) (t := none) (s := none) G6 (by
    rw [lr]
    have : j * (Dn k + 2) ≤ 2 * (Dn k + 2) := Nat.mul_le_mul_right _ hj
    omega) ⟨List.nodup_nil, fun q m => by cases m⟩ (by simp only [List.length_nil]; omega)
  rw [lr] at G7
  have G7' : Gn (n + (3 * Dn k + 14)) y7 := G7.up (by
    have : j * (Dn k + 2) ≤ 2 * (Dn k + 2) := Nat.mul_le_mul_right _ hj
    have : 0 < Dn k := by
      cases k with
      | zero => decide
      | succ k => simp only [Dn]; omega
    omega)
  have lp := fFor_st (g := fgName 8) (f := raceBody g__law_random (g__law_rule f)) it e7
  have hL7 : (L ++ [CO.lst (qs.map spQ)]).all coFree = true := by
    rw [List.all_append, hL]
    simp [coFree, hq.free]
  obtain ⟨y8, od, e8, G8, ho⟩ := order_ok G7' (by omega) hL7
  obtain ⟨xs, e9, s1, s2, s3, s4⟩ := specs_of (by omega) (show 1 + r1 ≤ 30 by omega) hq (by simp only [List.length_nil] at lq; omega) (S := y8 :: (L ++ [.lst (qs.map spQ)])) (j := L.length + 1) snoc_at
  have nm : isNums (.int (1 + r1)) (.int lead) cap = true := by
    rcases hcap with rfl | ⟨c, rfl, g1, g2⟩
    · simp only [isNums, isBtw, Bool.and_true, Bool.and_eq_true, decide_eq_true_eq]
      omega
    · simp only [isNums, isBtw, Bool.and_eq_true, decide_eq_true_eq]
      omega
  have fc : fit cap (3 * k + 4) = true ∧ tiny cap = true ∧ bnd cap = 8 := by
    rcases hcap with rfl | ⟨c, rfl, g1, g2⟩
    · exact ⟨rfl, rfl, rfl⟩
    · refine ⟨by simp [fit], ?_, rfl⟩
      simp only [tiny, Bool.and_eq_true, decide_eq_true_eq]
      omega
  have dr : Dr (k + 1) (.tup [.str "race", .int (1 + r1), .int lead, cap, od, unit, .lst xs]) := by
    refine ⟨?_, ?_, ?_, ?_⟩
    · have q : isRace (isRuleN k) (.tup [.str "race", .int (1 + r1), .int lead, cap, od, unit, .lst xs]) = true := by
        show (decide (("race" : Str) = "race") && isNums _ _ _ && isOrder od && (isRuleN k unit && isSpecs (isRuleN k) (.lst xs))) = true
        rw [nm, ho.ord, du.rule, s1]
        decide
      simp only [isRuleN, q, Bool.or_true]
    · have f1 : fit (.str "race") (3 * k + 4) = true := by
        simp only [fit]
        decide +kernel
      have f2 : ∀ i : Int, fit (.int i) (3 * k + 4) = true := fun i => by simp [fit]
      have f3 : fit (.lst xs) (3 * k + 4) = true := s2
      show fits [.str "race", .int (1 + r1), .int lead, cap, od, unit, .lst xs] (3 * k + 4) = true
      simp only [fits, f1, f2, f3, fc.1, fit_up (show 2 ≤ 3 * k + 4 by omega) ho.fit_, fit_up (show 3 * k + 2 ≤ 3 * k + 4 by omega) du.fit_, Bool.and_self]
    · have t1 : tiny (.str "race") = true := by decide +kernel
      have t2 : tiny (.int (1 + r1)) = true := by
        simp only [tiny, Bool.and_eq_true, decide_eq_true_eq]
        omega
      have t3 : tiny (.int lead) = true := by
        simp only [tiny, Bool.and_eq_true, decide_eq_true_eq]
        omega
      have t4 : tiny (.lst xs) = true := s3
      show tinys [.str "race", .int (1 + r1), .int lead, cap, od, unit, .lst xs] = true
      simp only [tinys, t1, t2, t3, t4, fc.2.1, ho.tiny_, du.tiny_, Bool.and_self]
    · have o := ho.bnd_
      have u := du.bnd_
      have p : 0 < 4 ^ k := Nat.pow_pos (by decide)
      have e : bnd (.tup [.str "race", .int (1 + r1), .int lead, cap, od, unit, .lst xs]) = (8 + 2 + (8 + 2 + (8 + 2 + (bnd cap + 2 + (bnd od + 2 + (bnd unit + 2 + (bnds xs + 4 + 2 + 0))))))) + 4 := rfl
      rw [e, fc.2.2, Nat.pow_succ]
      omega
  refine ⟨y8, .tup [.str "race", .int (1 + r1), .int lead, cap, od, unit, .lst xs], ?_, G8.up (by omega), dr⟩
  refine bodyT_to (L := [.lst (qs.map spQ)]) (T := y8 :: L) ?_ rfl (G8.all hL) (fit_nc dr.fit_)
  have b1 : (fPar3 3 4 5 (fCons (fOp addD (fC (.int 1)) (fCall 2 g__law_random (fCons (fVar 0) (fCons (fVar 2) fNil)))) (fCons (fCall 2 g__law_pick (fCons (fVar 0) (fCons (fLst (fCons (fC (.int 1)) (fCons (fC (.int 1)) (fCons (fC (.int 1)) (fCons (fC (.int 2)) (fCons (fC (.int 2)) (fCons (fC (.int 3)) fNil))))))) fNil))) (fCons (fC .non) fNil)))) [some (.cel 0), some (.int ((k + 1 : Nat) : Int)), some (.int 30), none, none, none, none, none, none, none, none, none] (x :: L) =
      .ok (.nx, [some (.cel 0), some (.int ((k + 1 : Nat) : Int)), some (.int 30), some (.int (1 + r1)), some (.int lead), some .non, none, none, none, none, none, none]) (y2 :: L) := by
    simp only [fC_ap, fVar_ap, fOp_ap, fB_ap, fAnd_ap, fOr_ap, fNot_ap, fAndV_ap, fOrV_ap, fNotV_ap, fIf_ap, fNil_ap, fCons_ap, fTup_ap, fLst_ap, fLstC_ap, fNoPart_ap, fPart_ap, fSl_ap, fNeg_ap, fCB_ap, fIsi_ap, fIsi2_ap, fNext_ap, fSeq_ap, fRet_ap, fRetF_ap, fgName_ap, fgNil_ap, fgCons_ap, fgTup_ap, fgSub_ap, fAsg_ap, fPar_ap, fPar3_ap, fDrop_ap, fApp_ap, fIfS_ap, fiSeq_ap, fiTup_ap, fiEnum_ap, fYes_ap, fCall_ap, fCall0_ap, fChain_ap, fBits_ap, fAddC_ap, fiAny_ap, Res.bind_ok, asB_ok, okO_some, bodyD, asB, iterOf, withLock_none, noErr_ok, wipeE, List.map_cons, List.map_nil, List.length_cons, List.length_nil, List.cons_append, List.nil_append, List.getElem?_cons_zero, List.getElem?_cons_succ, List.set_cons_zero, List.set_cons_succ, if_true, Bool.false_eq_true, if_false, Nat.reduceAdd, Nat.reduceSub, Nat.zero_add, List.replicate, tyD, atI_0, atI_1, lenD_lst, lenD_tup, ixD_tup, ixD_lst, eqD_int, eqD_str, neD_int, neD_str, leD_int, ltD_int, gtD_int, geD_int, addD_int, subD_int, intD_int, gx0, gx1, gx2, gs0, gs2, capN, Nat.zero_le, Nat.reduceLeDiff, Nat.reduceEqDiff, Nat.reduceLT, Bool.not_true, Bool.not_false, Bool.true_and, Bool.false_and, e1, e2]
  have ek : (((k + 1 : Nat) : Int)) - 1 = (k : Nat) := by omega
  have b3 : (fPar 6 7 (fCons (fLstC fNil) (fCons (fCall 3 (g__law_rule f) (fCons (fVar 0) (fCons (fOp subD (fVar 1) (fC (.int 1))) (fCons (fVar 2) fNil)))) fNil))) [some (.cel 0), some (.int ((k + 1 : Nat) : Int)), some (.int 30), some (.int (1 + r1)), some (.int lead), some cap, none, none, none, none, none, none] (y4 :: L) =
      .ok (.nx, rho k (1 + r1) lead cap (L.length + 1) unit none none none none) (y5 :: (L ++ [.lst []])) := by
    simp only [fC_ap, fVar_ap, fOp_ap, fB_ap, fAnd_ap, fOr_ap, fNot_ap, fAndV_ap, fOrV_ap, fNotV_ap, fIf_ap, fNil_ap, fCons_ap, fTup_ap, fLst_ap, fLstC_ap, fNoPart_ap, fPart_ap, fSl_ap, fNeg_ap, fCB_ap, fIsi_ap, fIsi2_ap, fNext_ap, fSeq_ap, fRet_ap, fRetF_ap, fgName_ap, fgNil_ap, fgCons_ap, fgTup_ap, fgSub_ap, fAsg_ap, fPar_ap, fPar3_ap, fDrop_ap, fApp_ap, fIfS_ap, fiSeq_ap, fiTup_ap, fiEnum_ap, fYes_ap, fCall_ap, fCall0_ap, fChain_ap, fBits_ap, fAddC_ap, fiAny_ap, Res.bind_ok, asB_ok, okO_some, bodyD, asB, iterOf, withLock_none, noErr_ok, wipeE, List.map_cons, List.map_nil, List.length_cons, List.length_nil, List.cons_append, List.nil_append, List.getElem?_cons_zero, List.getElem?_cons_succ, List.set_cons_zero, List.set_cons_succ, if_true, Bool.false_eq_true, if_false, Nat.reduceAdd, Nat.reduceSub, Nat.zero_add, List.replicate, tyD, atI_0, atI_1, lenD_lst, lenD_tup, ixD_tup, ixD_lst, eqD_int, eqD_str, neD_int, neD_str, leD_int, ltD_int, gtD_int, geD_int, addD_int, subD_int, intD_int, gx0, gx1, gx2, gs0, gs2, capN, Nat.zero_le, Nat.reduceLeDiff, Nat.reduceEqDiff, Nat.reduceLT, Bool.not_true, Bool.not_false, Bool.true_and, Bool.false_and, rho, ek, e5]
  have b5 : raceTail g__law_order (rho k (1 + r1) lead cap (L.length + 1) unit t s none none) (y7 :: (L ++ [.lst (qs.map spQ)])) =
      .ok (.rt (.tup [.str "race", .int (1 + r1), .int lead, cap, od, unit, .lst xs]), rho k (1 + r1) lead cap (L.length + 1) unit t s none none) (y8 :: (L ++ [.lst (qs.map spQ)])) := by
    simp only [raceTail, fC_ap, fVar_ap, fOp_ap, fB_ap, fAnd_ap, fOr_ap, fNot_ap, fAndV_ap, fOrV_ap, fNotV_ap, fIf_ap, fNil_ap, fCons_ap, fTup_ap, fLst_ap, fLstC_ap, fNoPart_ap, fPart_ap, fSl_ap, fNeg_ap, fCB_ap, fIsi_ap, fIsi2_ap, fNext_ap, fSeq_ap, fRet_ap, fRetF_ap, fgName_ap, fgNil_ap, fgCons_ap, fgTup_ap, fgSub_ap, fAsg_ap, fPar_ap, fPar3_ap, fDrop_ap, fApp_ap, fIfS_ap, fiSeq_ap, fiTup_ap, fiEnum_ap, fYes_ap, fCall_ap, fCall0_ap, fChain_ap, fBits_ap, fAddC_ap, fiAny_ap, Res.bind_ok, asB_ok, okO_some, bodyD, asB, iterOf, withLock_none, noErr_ok, wipeE, List.map_cons, List.map_nil, List.length_cons, List.length_nil, List.cons_append, List.nil_append, List.getElem?_cons_zero, List.getElem?_cons_succ, List.set_cons_zero, List.set_cons_succ, if_true, Bool.false_eq_true, if_false, Nat.reduceAdd, Nat.reduceSub, Nat.zero_add, List.replicate, tyD, atI_0, atI_1, lenD_lst, lenD_tup, ixD_tup, ixD_lst, eqD_int, eqD_str, neD_int, neD_str, leD_int, ltD_int, gtD_int, geD_int, addD_int, subD_int, intD_int, gx0, gx1, gx2, gs0, gs2, capN, Nat.zero_le, Nat.reduceLeDiff, Nat.reduceEqDiff, Nat.reduceLT, Bool.not_true, Bool.not_false, Bool.true_and, Bool.false_and, rho, e8, e9]
  refine bodyD_rt (ρ1 := rho k (1 + r1) lead cap (L.length + 1) unit t s none none) ?_
  show fSeq (fPar3 3 4 5 (fCons (fOp addD (fC (.int 1)) (fCall 2 g__law_random (fCons (fVar 0) (fCons (fVar 2) fNil)))) (fCons (fCall 2 g__law_pick (fCons (fVar 0) (fCons (fLst (fCons (fC (.int 1)) (fCons (fC (.int 1)) (fCons (fC (.int 1)) (fCons (fC (.int 2)) (fCons (fC (.int 2)) (fCons (fC (.int 3)) fNil))))))) fNil))) (fCons (fC .non) fNil)))) (fSeq _ (fSeq (fPar 6 7 (fCons (fLstC fNil) (fCons (fCall 3 (g__law_rule f) (fCons (fVar 0) (fCons (fOp subD (fVar 1) (fC (.int 1))) (fCons (fVar 2) fNil)))) fNil))) (fSeq (fFor (raceIt g__law_pick) (fgName 8) (raceBody g__law_random (g__law_rule f))) (raceTail g__law_order)))) [some (.cel 0), some (.int ((k + 1 : Nat) : Int)), some (.int 30), none, none, none, none, none, none, none, none, none] (x :: L) = _
  rw [fSeq_nx b1, fSeq_nx (e4 none none none none), fSeq_nx b3, fSeq_nx lp, b5]
  rfl
theorem rule_draw : ∀ (k : Nat), k ≤ 4 → ∀ f, 2 * k + 1 ≤ f → RuleDraw f k
  | k, hk, 0, hf => by omega
  | k, hk, f + 1, hf => by
    rename_i n x L
    intro G hn hL
    have w0 : ∀ s : Str, s = "rally" ∨ s = "hand" → Dr 0 (.tup [.str s]) := fun s h => by
      rcases h with rfl | rfl <;> exact ⟨by decide +kernel, by decide +kernel, by decide +kernel, by decide⟩
    have pk : ∀ {n : Nat} {x : CO}, Gn n x → n ≤ 1000000000 → ∃ y s, g__law_pick [.cel 0, .lst [.tup [.str "rally"], .tup [.str "rally"], .tup [.str "rally"], .tup [.str "hand"]]] (x :: L) = .ok (.tup [.str s]) (y :: L) ∧ Gn (n + 1) y ∧ (s = "rally" ∨ s = "hand") := fun {n x} G hn => by
      obtain ⟨y, d, e, G2, m⟩ := pick_ok G hn hL (xs := [.tup [.str "rally"], .tup [.str "rally"], .tup [.str "rally"], .tup [.str "hand"]]) (by decide) (by decide) rfl
      simp only [List.mem_cons, List.not_mem_nil, or_false] at m
      rcases m with rfl | rfl | rfl | rfl
      · exact ⟨y, _, e, G2, .inl rfl⟩
      · exact ⟨y, _, e, G2, .inl rfl⟩
      · exact ⟨y, _, e, G2, .inl rfl⟩
      · exact ⟨y, _, e, G2, .inr rfl⟩
    cases k with
    | zero =>
      obtain ⟨y, s, e, G2, hs⟩ := pk G (by omega)
      refine ⟨y, .tup [.str s], ?_, G2.up (by simp only [Dn]; omega), w0 s hs⟩
      refine bodyT_to (L := []) (T := y :: L) ?_ rfl (G2.all hL) rfl
      have z : decide (((0 : Nat) : Int) = 0) = true := by decide
      simp only [fC_ap, fVar_ap, fOp_ap, fB_ap, fAnd_ap, fOr_ap, fNot_ap, fAndV_ap, fOrV_ap, fNotV_ap, fIf_ap, fNil_ap, fCons_ap, fTup_ap, fLst_ap, fLstC_ap, fNoPart_ap, fPart_ap, fSl_ap, fNeg_ap, fCB_ap, fIsi_ap, fIsi2_ap, fNext_ap, fSeq_ap, fRet_ap, fRetF_ap, fgName_ap, fgNil_ap, fgCons_ap, fgTup_ap, fgSub_ap, fAsg_ap, fPar_ap, fPar3_ap, fDrop_ap, fApp_ap, fIfS_ap, fiSeq_ap, fiTup_ap, fiEnum_ap, fYes_ap, fCall_ap, fCall0_ap, fChain_ap, fBits_ap, fAddC_ap, fiAny_ap, Res.bind_ok, asB_ok, okO_some, bodyD, asB, iterOf, withLock_none, noErr_ok, wipeE, List.map_cons, List.map_nil, List.length_cons, List.length_nil, List.cons_append, List.nil_append, List.getElem?_cons_zero, List.getElem?_cons_succ, List.set_cons_zero, List.set_cons_succ, if_true, Bool.false_eq_true, if_false, Nat.reduceAdd, Nat.reduceSub, Nat.zero_add, List.replicate, tyD, atI_0, atI_1, lenD_lst, lenD_tup, ixD_tup, ixD_lst, eqD_int, eqD_str, neD_int, neD_str, leD_int, ltD_int, gtD_int, geD_int, addD_int, subD_int, intD_int, gx0, gx1, gx2, gs0, gs2, capN, Nat.zero_le, Nat.reduceLeDiff, Nat.reduceEqDiff, Nat.reduceLT, Bool.not_true, Bool.not_false, Bool.true_and, Bool.false_and, b__law_rule, z, e, List.append_nil]
    | succ k =>
      simp only [Dn] at hn ⊢
      have z : decide (((k + 1 : Nat) : Int) = 0) = false := decide_eq_false (by omega)
      obtain ⟨y1, v, e1, G1, v1, v2⟩ := random_ok G (by omega) hL (bd := 9) (by decide) (by decide)
      by_cases c : v = 0
      · have c' : decide (v = 0) = true := decide_eq_true c
        obtain ⟨y, s, e, G2, hs⟩ := pk G1 (by omega)
        refine ⟨y, .tup [.str s], ?_, G2.up (by omega), (w0 s hs).zero_le⟩
        refine bodyT_to (L := []) (T := y :: L) ?_ rfl (G2.all hL) rfl
        simp only [fC_ap, fVar_ap, fOp_ap, fB_ap, fAnd_ap, fOr_ap, fNot_ap, fAndV_ap, fOrV_ap, fNotV_ap, fIf_ap, fNil_ap, fCons_ap, fTup_ap, fLst_ap, fLstC_ap, fNoPart_ap, fPart_ap, fSl_ap, fNeg_ap, fCB_ap, fIsi_ap, fIsi2_ap, fNext_ap, fSeq_ap, fRet_ap, fRetF_ap, fgName_ap, fgNil_ap, fgCons_ap, fgTup_ap, fgSub_ap, fAsg_ap, fPar_ap, fPar3_ap, fDrop_ap, fApp_ap, fIfS_ap, fiSeq_ap, fiTup_ap, fiEnum_ap, fYes_ap, fCall_ap, fCall0_ap, fChain_ap, fBits_ap, fAddC_ap, fiAny_ap, Res.bind_ok, asB_ok, okO_some, bodyD, asB, iterOf, withLock_none, noErr_ok, wipeE, List.map_cons, List.map_nil, List.length_cons, List.length_nil, List.cons_append, List.nil_append, List.getElem?_cons_zero, List.getElem?_cons_succ, List.set_cons_zero, List.set_cons_succ, if_true, Bool.false_eq_true, if_false, Nat.reduceAdd, Nat.reduceSub, Nat.zero_add, List.replicate, tyD, atI_0, atI_1, lenD_lst, lenD_tup, ixD_tup, ixD_lst, eqD_int, eqD_str, neD_int, neD_str, leD_int, ltD_int, gtD_int, geD_int, addD_int, subD_int, intD_int, gx0, gx1, gx2, gs0, gs2, capN, Nat.zero_le, Nat.reduceLeDiff, Nat.reduceEqDiff, Nat.reduceLT, Bool.not_true, Bool.not_false, Bool.true_and, Bool.false_and, b__law_rule, z, e1, c', e, List.append_nil]
      · have c' : decide (v = 0) = false := decide_eq_false c
        obtain ⟨f, rfl⟩ : ∃ f', f = f' + 1 := ⟨f - 1, by omega⟩
        obtain ⟨y, d, e, G2, dr⟩ := race_ok (by omega) (rule_draw k (by omega) f (by omega)) G1 (by omega) hL
        refine ⟨y, d, ?_, G2.up (by omega), dr⟩
        refine bodyT_to (L := []) (T := y :: L) ?_ rfl (G2.all hL) (fit_nc dr.fit_)
        simp only [fC_ap, fVar_ap, fOp_ap, fB_ap, fAnd_ap, fOr_ap, fNot_ap, fAndV_ap, fOrV_ap, fNotV_ap, fIf_ap, fNil_ap, fCons_ap, fTup_ap, fLst_ap, fLstC_ap, fNoPart_ap, fPart_ap, fSl_ap, fNeg_ap, fCB_ap, fIsi_ap, fIsi2_ap, fNext_ap, fSeq_ap, fRet_ap, fRetF_ap, fgName_ap, fgNil_ap, fgCons_ap, fgTup_ap, fgSub_ap, fAsg_ap, fPar_ap, fPar3_ap, fDrop_ap, fApp_ap, fIfS_ap, fiSeq_ap, fiTup_ap, fiEnum_ap, fYes_ap, fCall_ap, fCall0_ap, fChain_ap, fBits_ap, fAddC_ap, fiAny_ap, Res.bind_ok, asB_ok, okO_some, bodyD, asB, iterOf, withLock_none, noErr_ok, wipeE, List.map_cons, List.map_nil, List.length_cons, List.length_nil, List.cons_append, List.nil_append, List.getElem?_cons_zero, List.getElem?_cons_succ, List.set_cons_zero, List.set_cons_succ, if_true, Bool.false_eq_true, if_false, Nat.reduceAdd, Nat.reduceSub, Nat.zero_add, List.replicate, tyD, atI_0, atI_1, lenD_lst, lenD_tup, ixD_tup, ixD_lst, eqD_int, eqD_str, neD_int, neD_str, leD_int, ltD_int, gtD_int, geD_int, addD_int, subD_int, intD_int, gx0, gx1, gx2, gs0, gs2, capN, Nat.zero_le, Nat.reduceLeDiff, Nat.reduceEqDiff, Nat.reduceLT, Bool.not_true, Bool.not_false, Bool.true_and, Bool.false_and, b__law_rule, z, e1, c', e, List.append_nil]
end K1

set_option maxHeartbeats 2000000
namespace K1
open PySem PySem.Spec PyProof.Rows L2 DL
/-- a drawn race of a nested rule -/
structure Rc (need lead : Int) (cap order unit : D) (sp : List D) (k : Nat) : Prop where
  n1 : 1 ≤ need
  n2 : need ≤ 30
  l1 : 1 ≤ lead
  l2 : lead ≤ 3
  cap_ : cap = .non ∨ cap = .int need ∨ cap = .int 40
  ord : Or order
  unit_ : Dr k unit
  only : ∀ j, isRuleN j unit = decide (k ≤ j)
  sp_ : sp = [] ∨ ∃ t : Int, 0 ≤ t ∧ t ≤ 3 ∧ sp = [.tup [.tup [.int t, .int 40], unit]]
def raceT (need lead : Int) (cap order unit : D) (sp : List D) : D := .tup [.str "race", .int need, .int lead, cap, order, unit, .lst sp]
structure Nst (k : Nat) (d : D) : Prop where
  dr : Dr k d
  only : ∀ j, isRuleN j d = decide (k ≤ j)
theorem Rc.nums {need lead : Int} {cap order unit : D} {sp : List D} {k : Nat} (h : Rc need lead cap order unit sp k) : isNums (.int need) (.int lead) cap = true := by
  have a := h.n1
  have b := h.n2
  have c := h.l1
  have d := h.l2
  rcases h.cap_ with rfl | rfl | rfl
  · simp only [isNums, isBtw, Bool.and_true, Bool.and_eq_true, decide_eq_true_eq]
    omega
  · simp only [isNums, isBtw, Bool.and_eq_true, decide_eq_true_eq]
    omega
  · simp only [isNums, isBtw, Bool.and_eq_true, decide_eq_true_eq]
    omega
theorem Rc.specs {need lead : Int} {cap order unit : D} {sp : List D} {k j : Nat} (h : Rc need lead cap order unit sp k) (l : k ≤ j) : isSpecs (isRuleN j) (.lst sp) = true := by
  rcases h.sp_ with rfl | ⟨t, t0, t3, rfl⟩
  · rfl
  · have r : isRuleN j unit = true := by rw [h.only, decide_eq_true l]
    have one : isSpec (isRuleN j) (.tup [.tup [.int t, .int 40], unit]) = true := by
      simp only [isSpec, isScore, isCount, lowS, r, Bool.and_true, Bool.and_eq_true, decide_eq_true_eq]
      omega
    simp only [isSpecs, List.all_cons, List.all_nil, one]
    rfl
theorem Rc.race {need lead : Int} {cap order unit : D} {sp : List D} {k : Nat} (h : Rc need lead cap order unit sp k) (j : Nat) : isRace (isRuleN j) (raceT need lead cap order unit sp) = decide (k ≤ j) := by
  show (decide (("race" : Str) = "race") && isNums _ _ _ && isOrder order && (isRuleN j unit && isSpecs (isRuleN j) (.lst sp))) = _
  rw [h.nums, h.ord.ord, h.only]
  by_cases l : k ≤ j
  · rw [h.specs l, decide_eq_true l]
    decide
  · rw [decide_eq_false l]
    simp
theorem Rc.nst {need lead : Int} {cap order unit : D} {sp : List D} {k : Nat} (h : Rc need lead cap order unit sp k) : Nst (k + 1) (raceT need lead cap order unit sp) := by
  have on : ∀ j, isRuleN j (raceT need lead cap order unit sp) = decide (k + 1 ≤ j) := fun j => by
    cases j with
    | zero => rfl
    | succ j =>
      have e : isRuleN (j + 1) (raceT need lead cap order unit sp) = isRace (isRuleN j) (raceT need lead cap order unit sp) := by
        simp only [isRuleN, raceT, isWord, Bool.false_or]
      rw [e, h.race]
      by_cases c : k ≤ j <;> simp [c]
  have a := h.n1
  have b := h.n2
  have c := h.l1
  have d := h.l2
  have fc : fit cap (3 * k + 4) = true ∧ tiny cap = true ∧ bnd cap = 8 := by
    rcases h.cap_ with rfl | rfl | rfl
    · exact ⟨rfl, rfl, rfl⟩
    · refine ⟨by simp [fit], ?_, rfl⟩
      simp only [tiny, Bool.and_eq_true, decide_eq_true_eq]
      omega
    · exact ⟨by simp [fit], rfl, rfl⟩
  have fs : fits sp (3 * k + 3) = true ∧ tinys sp = true ∧ bnds sp ≤ 200 * 4 ^ k + 34 := by
    rcases h.sp_ with rfl | ⟨t, t0, t3, rfl⟩
    · exact ⟨rfl, rfl, by simp [bnds]⟩
    · refine ⟨?_, ?_, ?_⟩
      · have f1 : fit (.tup [.int t, .int 40]) (3 * k + 2) = true := by simp [fit, fits]
        have f2 : fit (.tup [.tup [.int t, .int 40], unit]) (3 * k + 3) = true := by
          show fits [.tup [.int t, .int 40], unit] (3 * k + 2) = true
          simp only [fits, f1, h.unit_.fit_, Bool.and_self]
        simp only [fits, f2, Bool.and_self]
      · simp only [tinys, tiny, h.unit_.tiny_, Bool.and_true, Bool.and_eq_true, decide_eq_true_eq]
        omega
      · have := h.unit_.bnd_
        simp only [bnds, bnd]
        omega
  refine ⟨⟨by rw [on]; simp, ?_, ?_, ?_⟩, on⟩
  · have f1 : fit (.str "race") (3 * k + 4) = true := by
      simp only [fit]
      decide +kernel
    have f2 : ∀ i : Int, fit (.int i) (3 * k + 4) = true := fun i => by simp [fit]
    have f3 : fit (.lst sp) (3 * k + 4) = true := fs.1
    show fits [.str "race", .int need, .int lead, cap, order, unit, .lst sp] (3 * k + 4) = true
    simp only [fits, f1, f2, f3, fc.1, fit_up (show 2 ≤ 3 * k + 4 by omega) h.ord.fit_, fit_up (show 3 * k + 2 ≤ 3 * k + 4 by omega) h.unit_.fit_, Bool.and_self]
  · have t1 : tiny (.str "race") = true := by decide +kernel
    have t2 : tiny (.int need) = true := by
      simp only [tiny, Bool.and_eq_true, decide_eq_true_eq]
      omega
    have t3 : tiny (.int lead) = true := by
      simp only [tiny, Bool.and_eq_true, decide_eq_true_eq]
      omega
    have t4 : tiny (.lst sp) = true := fs.2.1
    show tinys [.str "race", .int need, .int lead, cap, order, unit, .lst sp] = true
    simp only [tinys, t1, t2, t3, t4, fc.2.1, h.ord.tiny_, h.unit_.tiny_, Bool.and_self]
  · have o := h.ord.bnd_
    have u := h.unit_.bnd_
    have p : 0 < 4 ^ k := Nat.pow_pos (by decide)
    have s := fs.2.2
    have e : bnd (raceT need lead cap order unit sp) = (8 + 2 + (8 + 2 + (8 + 2 + (bnd cap + 2 + (bnd order + 2 + (bnd unit + 2 + (bnds sp + 4 + 2 + 0))))))) + 4 := rfl
    rw [e, fc.2.2, Nat.pow_succ]
    omega
def nestBody (g__law_pick g__law_random g__law_order : GF) : FS := (fSeq (fAsg (fIf (fB (fOp eqD (fCall 2 g__law_random (fCons (fVar 0) (fCons (fC (.int 2)) fNil))) (fC (.int 0)))) (fLst (fCons (fTup (fCons (fTup (fCons (fVar 3) (fCons (fC (.int 40)) fNil))) (fCons (fVar 2) fNil))) fNil)) (fLst fNil)) (fgName 4)) (fSeq (fAsg (fOp addD (fC (.int 1)) (fCall 2 g__law_random (fCons (fVar 0) (fCons (fC (.int 30)) fNil)))) (fgName 5)) (fSeq (fAsg (fCall 2 g__law_pick (fCons (fVar 0) (fCons (fLst (fCons (fC .non) (fCons (fVar 5) (fCons (fC (.int 40)) fNil)))) fNil))) (fgName 6)) (fAsg (fTup (fCons (fC (.str "race")) (fCons (fVar 5) (fCons (fOp addD (fC (.int 1)) (fCall 2 g__law_random (fCons (fVar 0) (fCons (fC (.int 3)) fNil)))) (fCons (fVar 6) (fCons (fCall 1 g__law_order (fCons (fVar 0) fNil)) (fCons (fVar 2) (fCons (fVar 4) fNil)))))))) (fgName 2)))))
theorem nest_step {k n : Nat} (hk : k ≤ 3) {x : CO} {L : Sto} {deep r : D} {u v w : Option D} (G : Gn n x) (hn : n + 10 ≤ 1000000000) (hL : L.all coFree = true) (h : Nst k r) :
    ∃ y need lead cap order sp, nestBody g__law_pick g__law_random g__law_order [some (.cel 0), some deep, some r, some (.int (k : Nat)), u, v, w] (x :: L) =
      .ok (.nx, [some (.cel 0), some deep, some (raceT need lead cap order r sp), some (.int (k : Nat)), some (.lst sp), some (.int need), some cap]) (y :: L) ∧ Gn (n + 10) y ∧ Rc need lead cap order r sp k := by
  obtain ⟨y1, r1, e1, G1, a1, a2⟩ := random_ok G (by omega) hL (bd := 2) (by decide) (by decide)
  obtain ⟨y2, r2, e2, G2, b1, b2⟩ := random_ok G1 (by omega) hL (bd := 30) (by decide) (by decide)
  obtain ⟨y3, cap, e3, G3, m3⟩ := pick_ok G2 (by omega) hL (xs := [.non, .int (1 + r2), .int 40]) (show 1 ≤ 3 by decide) (show 3 ≤ 1000 by decide) rfl
  obtain ⟨y4, r4, e4, G4, c1, c2⟩ := random_ok G3 (by omega) hL (bd := 3) (by decide) (by decide)
  obtain ⟨y5, od, e5, G5, ho⟩ := order_ok G4 (by omega) hL
  simp only [List.mem_cons, List.not_mem_nil, or_false] at m3
  have mkR : ∀ sp : List D, (sp = [] ∨ ∃ t : Int, 0 ≤ t ∧ t ≤ 3 ∧ sp = [.tup [.tup [.int t, .int 40], r]]) → Rc (1 + r2) (1 + r4) cap od r sp k := fun sp hs =>
    ⟨by omega, by omega, by omega, by omega, m3, ho, h.dr, h.only, hs⟩
  by_cases z : r1 = 0
  · have z' : decide (r1 = 0) = true := decide_eq_true z
    refine ⟨y5, 1 + r2, 1 + r4, cap, od, [.tup [.tup [.int (k : Nat), .int 40], r]], ?_, G5.up (by omega), mkR _ (.inr ⟨_, by omega, by omega, rfl⟩)⟩
    simp only [nestBody, fC_ap, fVar_ap, fOp_ap, fB_ap, fAnd_ap, fOr_ap, fNot_ap, fAndV_ap, fOrV_ap, fNotV_ap, fIf_ap, fNil_ap, fCons_ap, fTup_ap, fLst_ap, fLstC_ap, fNoPart_ap, fPart_ap, fSl_ap, fNeg_ap, fCB_ap, fIsi_ap, fIsi2_ap, fNext_ap, fSeq_ap, fRet_ap, fRetF_ap, fgName_ap, fgNil_ap, fgCons_ap, fgTup_ap, fgSub_ap, fAsg_ap, fPar_ap, fPar3_ap, fDrop_ap, fApp_ap, fIfS_ap, fiSeq_ap, fiTup_ap, fiEnum_ap, fYes_ap, fCall_ap, fCall0_ap, fChain_ap, fBits_ap, fAddC_ap, fiAny_ap, Res.bind_ok, asB_ok, okO_some, bodyD, asB, iterOf, withLock_none, noErr_ok, wipeE, List.map_cons, List.map_nil, List.length_cons, List.length_nil, List.cons_append, List.nil_append, List.getElem?_cons_zero, List.getElem?_cons_succ, List.set_cons_zero, List.set_cons_succ, if_true, Bool.false_eq_true, if_false, Nat.reduceAdd, Nat.reduceSub, Nat.zero_add, List.replicate, tyD, atI_0, atI_1, lenD_lst, lenD_tup, ixD_tup, ixD_lst, eqD_int, eqD_str, neD_int, neD_str, leD_int, ltD_int, gtD_int, geD_int, addD_int, subD_int, intD_int, gx0, gx1, gx2, gs0, gs2, capN, Nat.zero_le, Nat.reduceLeDiff, Nat.reduceEqDiff, Nat.reduceLT, Bool.not_true, Bool.not_false, Bool.true_and, Bool.false_and, e1, z', e2, e3, e4, e5]
    rfl
  · have z' : decide (r1 = 0) = false := decide_eq_false z
    refine ⟨y5, 1 + r2, 1 + r4, cap, od, [], ?_, G5.up (by omega), mkR _ (.inl rfl)⟩
    simp only [nestBody, fC_ap, fVar_ap, fOp_ap, fB_ap, fAnd_ap, fOr_ap, fNot_ap, fAndV_ap, fOrV_ap, fNotV_ap, fIf_ap, fNil_ap, fCons_ap, fTup_ap, fLst_ap, fLstC_ap, fNoPart_ap, fPart_ap, fSl_ap, fNeg_ap, fCB_ap, fIsi_ap, fIsi2_ap, fNext_ap, fSeq_ap, fRet_ap, fRetF_ap, fgName_ap, fgNil_ap, fgCons_ap, fgTup_ap, fgSub_ap, fAsg_ap, fPar_ap, fPar3_ap, fDrop_ap, fApp_ap, fIfS_ap, fiSeq_ap, fiTup_ap, fiEnum_ap, fYes_ap, fCall_ap, fCall0_ap, fChain_ap, fBits_ap, fAddC_ap, fiAny_ap, Res.bind_ok, asB_ok, okO_some, bodyD, asB, iterOf, withLock_none, noErr_ok, wipeE, List.map_cons, List.map_nil, List.length_cons, List.length_nil, List.cons_append, List.nil_append, List.getElem?_cons_zero, List.getElem?_cons_succ, List.set_cons_zero, List.set_cons_succ, if_true, Bool.false_eq_true, if_false, Nat.reduceAdd, Nat.reduceSub, Nat.zero_add, List.replicate, tyD, atI_0, atI_1, lenD_lst, lenD_tup, ixD_tup, ixD_lst, eqD_int, eqD_str, neD_int, neD_str, leD_int, ltD_int, gtD_int, geD_int, addD_int, subD_int, intD_int, gx0, gx1, gx2, gs0, gs2, capN, Nat.zero_le, Nat.reduceLeDiff, Nat.reduceEqDiff, Nat.reduceLT, Bool.not_true, Bool.not_false, Bool.true_and, Bool.false_and, e1, z', e2, e3, e4, e5]
    rfl
/-- the rule within, and the race around it -/
def Top (k : Nat) (d : D) : Prop := Nst k d ∧ (k = 0 ∨ ∃ need lead cap order unit sp, d = raceT need lead cap order unit sp ∧ Rc need lead cap order unit sp (k - 1))
theorem nest_loop {L : Sto} {deep : D} (hL : L.all coFree = true) : ∀ (m k n : Nat) {x : CO} {r : D} {t u v w : Option D}, k + m ≤ 4 → Gn n x → n + 10 * m ≤ 1000000000 → Top k r →
    ∃ y r' t' u' v' w', loopD (fgName 3) (nestBody g__law_pick g__law_random g__law_order) ((List.range m).map fun i => .int ((k + i : Nat) : Int)) [some (.cel 0), some deep, some r, t, u, v, w] (x :: L) =
      .ok (.nx, [some (.cel 0), some deep, some r', t', u', v', w']) (y :: L) ∧ Gn (n + 10 * m) y ∧ Top (k + m) r'
  | 0, k, n, x, r, t, u, v, w, _, G, _, h => ⟨x, r, t, u, v, w, rfl, G, h⟩
  | m + 1, k, n, x, r, t, u, v, w, hk, G, hn, h => by
    obtain ⟨y, need, lead, cap, order, sp, e, G1, rc⟩ := nest_step (k := k) (deep := deep) (u := u) (v := v) (w := w) (by omega) G (by omega) hL h.1
    obtain ⟨z, r', t', u', v', w', e2, G2, h2⟩ := nest_loop hL m (k + 1) (n + 10) (deep := deep) (r := raceT need lead cap order r sp) (t := some (.int (k : Nat))) (u := some (.lst sp)) (v := some (.int need)) (w := some cap) (by omega) G1 (by omega) ⟨rc.nst, .inr ⟨_, _, _, _, _, _, rfl, rc⟩⟩
    refine ⟨z, r', t', u', v', w', ?_, G2.up (by omega), by rw [show k + (m + 1) = k + 1 + m by omega]; exact h2⟩
    rw [List.range_succ_eq_map, List.map_cons, List.map_map]
    have ea : ((fun i : Nat => D.int ((k + i : Nat) : Int)) ∘ Nat.succ) = fun i : Nat => D.int ((k + 1 + i : Nat) : Int) := funext fun i => by
      show D.int ((k + (i + 1) : Nat) : Int) = _
      rw [show k + (i + 1) = k + 1 + i by omega]
    rw [ea]
    show loopD _ _ (.int ((k + 0 : Nat) : Int) :: _) _ _ = _
    unfold loopD
    have st : fgName 3 (.int ((k + 0 : Nat) : Int)) [some (.cel 0), some deep, some r, t, u, v, w] (x :: L) = .ok [some (.cel 0), some deep, some r, some (.int (k : Nat)), u, v, w] (x :: L) := rfl
    rw [st]
    simp only [Res.bind_ok, e, e2]
theorem nested_ok {n deep : Nat} {x : CO} {L : Sto} (h1 : deep ≤ 4) (G : Gn n x) (hn : n + 50 ≤ 1000000000) (hL : L.all coFree = true) :
    ∃ y r, g__law_nested [.cel 0, .int (deep : Nat)] (x :: L) = .ok r (y :: L) ∧ Gn (n + 50) y ∧ Top deep r := by
  obtain ⟨y, d, e, G1, m⟩ := pick_ok G (by omega) hL (xs := [.tup [.str "rally"], .tup [.str "hand"]]) (by decide) (by decide) rfl
  have t0 : Top 0 d := by
    have on : ∀ s : Str, s = "rally" ∨ s = "hand" → ∀ j, isRuleN j (.tup [.str s]) = decide (0 ≤ j) := fun s hs j => by
      have w : (isWord "rally" (.tup [.str s]) || isWord "hand" (.tup [.str s])) = true := by
        rcases hs with rfl | rfl <;> decide +kernel
      rw [decide_eq_true (Nat.zero_le j)]
      cases j with
      | zero => exact w
      | succ j =>
        simp only [isRuleN, w, Bool.true_or]
    simp only [List.mem_cons, List.not_mem_nil, or_false] at m
    rcases m with rfl | rfl
    · exact ⟨⟨⟨by decide +kernel, by decide +kernel, by decide +kernel, by decide⟩, on _ (.inl rfl)⟩, .inl rfl⟩
    · exact ⟨⟨⟨by decide +kernel, by decide +kernel, by decide +kernel, by decide⟩, on _ (.inr rfl)⟩, .inl rfl⟩
  obtain ⟨z, r, t, u, v, w, e2, G2, h2⟩ := nest_loop (deep := .int (deep : Nat)) hL deep 0 (n + 1) (t := none) (u := none) (v := none) (w := none) (by omega) G1 (by omega) t0
  have er : ((List.range deep).map fun i => D.int ((0 + i : Nat) : Int)) = rangeD 0 deep := by
    unfold rangeD
    refine List.map_congr_left fun i _ => ?_
    rw [show (0 : Int) + (i : Nat) = ((0 + i : Nat) : Int) by omega]
  rw [er] at e2
  have it : ((fiRng1 (fCons (fVar 1) fNil)) : FI) [some (.cel 0), some (.int (deep : Nat)), some d, none, none, none, none] (y :: L) = .ok ⟨rangeD 0 deep, none⟩ (y :: L) := fiRng1_nat (by simp only [fC_ap, fVar_ap, fOp_ap, fB_ap, fAnd_ap, fOr_ap, fNot_ap, fAndV_ap, fOrV_ap, fNotV_ap, fIf_ap, fNil_ap, fCons_ap, fTup_ap, fLst_ap, fLstC_ap, fNoPart_ap, fPart_ap, fSl_ap, fNeg_ap, fCB_ap, fIsi_ap, fIsi2_ap, fNext_ap, fSeq_ap, fRet_ap, fRetF_ap, fgName_ap, fgNil_ap, fgCons_ap, fgTup_ap, fgSub_ap, fAsg_ap, fPar_ap, fPar3_ap, fDrop_ap, fApp_ap, fIfS_ap, fiSeq_ap, fiTup_ap, fiEnum_ap, fYes_ap, fCall_ap, fCall0_ap, fChain_ap, fBits_ap, fAddC_ap, fiAny_ap, Res.bind_ok, asB_ok, okO_some, bodyD, asB, iterOf, withLock_none, noErr_ok, wipeE, List.map_cons, List.map_nil, List.length_cons, List.length_nil, List.cons_append, List.nil_append, List.getElem?_cons_zero, List.getElem?_cons_succ, List.set_cons_zero, List.set_cons_succ, if_true, Bool.false_eq_true, if_false, Nat.reduceAdd, Nat.reduceSub, Nat.zero_add, List.replicate, tyD, atI_0, atI_1, lenD_lst, lenD_tup, ixD_tup, ixD_lst, eqD_int, eqD_str, neD_int, neD_str, leD_int, ltD_int, gtD_int, geD_int, addD_int, subD_int, intD_int, gx0, gx1, gx2, gs0, gs2, capN, Nat.zero_le, Nat.reduceLeDiff, Nat.reduceEqDiff, Nat.reduceLT, Bool.not_true, Bool.not_false, Bool.true_and, Bool.false_and]) (by omega)
  have lp := fFor_st (g := fgName 3) (f := nestBody g__law_pick g__law_random g__law_order) it e2
  rw [Nat.zero_add] at h2
  refine ⟨z, r, ?_, G2.up (by omega), h2⟩
  refine bodyT_to (L := []) (T := z :: L) ?_ rfl (G2.all hL) (fit_nc h2.1.dr.fit_)
  have b1 : (fAsg (fCall 2 g__law_pick (fCons (fVar 0) (fCons (fLst (fCons (fTup (fCons (fC (.str "rally")) fNil)) (fCons (fTup (fCons (fC (.str "hand")) fNil)) fNil))) fNil))) (fgName 2)) [some (.cel 0), some (.int (deep : Nat)), none, none, none, none, none] (x :: L) = .ok (.nx, [some (.cel 0), some (.int (deep : Nat)), some d, none, none, none, none]) (y :: L) := by
    simp only [fC_ap, fVar_ap, fOp_ap, fB_ap, fAnd_ap, fOr_ap, fNot_ap, fAndV_ap, fOrV_ap, fNotV_ap, fIf_ap, fNil_ap, fCons_ap, fTup_ap, fLst_ap, fLstC_ap, fNoPart_ap, fPart_ap, fSl_ap, fNeg_ap, fCB_ap, fIsi_ap, fIsi2_ap, fNext_ap, fSeq_ap, fRet_ap, fRetF_ap, fgName_ap, fgNil_ap, fgCons_ap, fgTup_ap, fgSub_ap, fAsg_ap, fPar_ap, fPar3_ap, fDrop_ap, fApp_ap, fIfS_ap, fiSeq_ap, fiTup_ap, fiEnum_ap, fYes_ap, fCall_ap, fCall0_ap, fChain_ap, fBits_ap, fAddC_ap, fiAny_ap, Res.bind_ok, asB_ok, okO_some, bodyD, asB, iterOf, withLock_none, noErr_ok, wipeE, List.map_cons, List.map_nil, List.length_cons, List.length_nil, List.cons_append, List.nil_append, List.getElem?_cons_zero, List.getElem?_cons_succ, List.set_cons_zero, List.set_cons_succ, if_true, Bool.false_eq_true, if_false, Nat.reduceAdd, Nat.reduceSub, Nat.zero_add, List.replicate, tyD, atI_0, atI_1, lenD_lst, lenD_tup, ixD_tup, ixD_lst, eqD_int, eqD_str, neD_int, neD_str, leD_int, ltD_int, gtD_int, geD_int, addD_int, subD_int, intD_int, gx0, gx1, gx2, gs0, gs2, capN, Nat.zero_le, Nat.reduceLeDiff, Nat.reduceEqDiff, Nat.reduceLT, Bool.not_true, Bool.not_false, Bool.true_and, Bool.false_and, e]
  refine bodyD_rt (ρ1 := [some (.cel 0), some (.int (deep : Nat)), some r, t, u, v, w]) ?_
  show fSeq (fAsg (fCall 2 g__law_pick (fCons (fVar 0) (fCons (fLst (fCons (fTup (fCons (fC (.str "rally")) fNil)) (fCons (fTup (fCons (fC (.str "hand")) fNil)) fNil))) fNil))) (fgName 2)) (fSeq (fFor (fiRng1 (fCons (fVar 1) fNil)) (fgName 3) (nestBody g__law_pick g__law_random g__law_order)) (fRet (fVar 2))) [some (.cel 0), some (.int (deep : Nat)), none, none, none, none, none] (x :: L) = _
  rw [fSeq_nx b1, fSeq_nx lp, List.append_nil]
  rfl
end K1

set_option maxHeartbeats 2000000
namespace K1
open PySem PySem.Spec PyProof.Rows L2 DL
theorem rally_ok (a b c : Int) : g_is_rule [.tup [.str "rally"]] [gen a b c] = .ok (.bl true) [gen a b c] := by kernel_rfl
theorem same_t (a b c : Int) : g__law_same 16 [.lst [.bl true, .bl false], .lst [.bl true, .bl false]] [gen a b c] = .ok (.bl true) [gen a b c] := by kernel_rfl
theorem plain_right (a b c : Int) : g__law_plain_right [] [gen a b c] = .ok (.bl true) [gen a b c] := by kernel_rfl
end K1

set_option maxHeartbeats 4000000
namespace K1
open PySem PySem.Spec PyProof.Rows L2 DL
def wrongs (need lead : Int) (cap order unit : D) (sp : List D) : List D := [
  .lst [.str "race", .int need, .int lead, cap, order, unit, .lst sp],
  .tup [.str "race", .int need, .int lead, cap, order, unit],
  .tup [.str "race", .int need, .int lead, cap, order, unit, .lst sp, .int 1],
  .tup [.str "Race", .int need, .int lead, cap, order, unit, .lst sp],
  .tup [.non, .int need, .int lead, cap, order, unit, .lst sp],
  .tup [.str "race", .int 0, .int lead, .non, order, unit, .lst sp],
  .tup [.str "race", .int 31, .int lead, .non, order, unit, .lst sp],
  .tup [.str "race", .bl true, .int lead, .non, order, unit, .lst sp],
  .tup [.str "race", .int need, .int 0, cap, order, unit, .lst sp],
  .tup [.str "race", .int need, .int 4, cap, order, unit, .lst sp],
  .tup [.str "race", .int need, .bl true, cap, order, unit, .lst sp],
  .tup [.str "race", .int need, .int lead, .int (need - 1), order, unit, .lst sp],
  .tup [.str "race", .int need, .int lead, .int 41, order, unit, .lst sp],
  .tup [.str "race", .int need, .int lead, .str "5", order, unit, .lst sp],
  .tup [.str "race", .str (toString need), .int lead, .non, order, unit, .lst sp],
  .tup [.str "race", .int 1, .int lead, .bl true, order, unit, .lst sp],
  .tup [.str "race", .int need, .int lead, cap, .non, unit, .lst sp],
  .tup [.str "race", .int need, .int lead, cap, .str "on", unit, .lst sp],
  .tup [.str "race", .int need, .int lead, cap, .tup [.str "off"], unit, .lst sp],
  .tup [.str "race", .int need, .int lead, cap, .tup [.str "on", .lst []], unit, .lst sp],
  .tup [.str "race", .int need, .int lead, cap, .tup [.str "row"], unit, .lst sp],
  .tup [.str "race", .int need, .int lead, cap, order, .non, .lst sp],
  .tup [.str "race", .int need, .int lead, cap, order, .str "rally", .lst sp],
  .tup [.str "race", .int need, .int lead, cap, order, .tup [.str "rally", .int 1], .lst sp],
  .tup [.str "race", .int need, .int lead, cap, order, unit, .non],
  .tup [.str "race", .int need, .int lead, cap, order, unit, .tup sp],
  .tup [.str "race", .int need, .int lead, cap, order, unit, .lst [.tup [.tup [.int 0, .int 0], .tup [.str "rally"]], .tup [.tup [.int 1, .int 1], .tup [.str "rally"]], .tup [.tup [.int 2, .int 2], .tup [.str "rally"]], .tup [.tup [.int 3, .int 3], .tup [.str "rally"]], .tup [.tup [.int 4, .int 4], .tup [.str "rally"]], .tup [.tup [.int 5, .int 5], .tup [.str "rally"]], .tup [.tup [.int 6, .int 6], .tup [.str "rally"]], .tup [.tup [.int 7, .int 7], .tup [.str "rally"]], .tup [.tup [.int 8, .int 8], .tup [.str "rally"]]]],
  .tup [.str "race", .int need, .int lead, cap, order, unit, .lst [.non]],
  .tup [.str "race", .int need, .int lead, cap, order, unit, .lst [.tup [.tup [.int 1, .int 1]]]],
  .tup [.str "race", .int need, .int lead, cap, order, unit, .lst [.tup [.tup [.int 1, .int 1], .tup [.str "rally"], .int 1]]],
  .tup [.str "race", .int need, .int lead, cap, order, unit, .lst [.lst [.tup [.int 1, .int 1], .tup [.str "rally"]]]],
  .tup [.str "race", .int need, .int lead, cap, order, unit, .lst [.tup [.lst [.int 1, .int 1], .tup [.str "rally"]]]],
  .tup [.str "race", .int need, .int lead, cap, order, unit, .lst [.tup [.tup [.int 1], .tup [.str "rally"]]]],
  .tup [.str "race", .int need, .int lead, cap, order, unit, .lst [.tup [.tup [.int 1, .int 41], .tup [.str "rally"]]]],
  .tup [.str "race", .int need, .int lead, cap, order, unit, .lst [.tup [.tup [.int (0 - 1), .int 1], .tup [.str "rally"]]]],
  .tup [.str "race", .int need, .int lead, cap, order, unit, .lst [.tup [.tup [.bl true, .int 1], .tup [.str "rally"]]]],
  .tup [.str "race", .int need, .int lead, cap, order, unit, .lst [.tup [.tup [.int 1, .int 1], .non]]],
  .tup [.str "race", .int need, .int lead, cap, order, unit, .lst [.tup [.tup [.int 1, .int 1], .tup [.str "rallies"]]]],
  .tup [.str "race", .int need, .int lead, cap, order, unit, .lst [.tup [.tup [.int 1, .int 1], .tup [.str "rally"]], .tup [.tup [.int 1, .int 1], .tup [.str "hand"]]]],
  .tup [.str "race", .int need, .int lead, cap, order, unit, .lst [.tup [.tup [.int 1, .int 2], .tup [.str "rally"]], .tup [.tup [.int 1, .int 1], .tup [.str "hand"]]]]]
def outS : Res D → Sto
  | .ok _ S => S.drop 1
  | _ => []
theorem bad_nums {a b c o u s : D} (h : isNums a b c = false) : isRuleN 4 (.tup [.str "race", a, b, c, o, u, s]) = false := by
  show (decide (("race" : Str) = "race") && isNums a b c && isOrder o && (isRuleN 3 u && isSpecs (isRuleN 3) s)) = false
  rw [h]
  simp
theorem bad_order {a b c o u s : D} (h : isOrder o = false) : isRuleN 4 (.tup [.str "race", a, b, c, o, u, s]) = false := by
  show (decide (("race" : Str) = "race") && isNums a b c && isOrder o && (isRuleN 3 u && isSpecs (isRuleN 3) s)) = false
  rw [h]
  simp
theorem bad_unit {a b c o u s : D} (h : isRuleN 3 u = false) : isRuleN 4 (.tup [.str "race", a, b, c, o, u, s]) = false := by
  show (decide (("race" : Str) = "race") && isNums a b c && isOrder o && (isRuleN 3 u && isSpecs (isRuleN 3) s)) = false
  rw [h]
  simp
theorem bad_specs {a b c o u s : D} (h : isSpecs (isRuleN 3) s = false) : isRuleN 4 (.tup [.str "race", a, b, c, o, u, s]) = false := by
  show (decide (("race" : Str) = "race") && isNums a b c && isOrder o && (isRuleN 3 u && isSpecs (isRuleN 3) s)) = false
  rw [h]
  simp
theorem num1 {a b c : D} (h : isBtw 1 30 a = false) : isNums a b c = false := by
  simp only [isNums, h, Bool.false_and]
theorem num2 {a b c : D} (h : isBtw 1 3 b = false) : isNums a b c = false := by
  simp only [isNums, h, Bool.and_false, Bool.false_and]
theorem num3 {n : Int} {b c : D} (hc : c ≠ .non) (h : isBtw n 40 c = false) : isNums (.int n) b c = false := by
  cases c <;> first | exact absurd rfl hc | simp only [isNums, h, Bool.and_false]
theorem wrongs_bad {need lead : Int} {cap order unit : D} {sp : List D} : (wrongs need lead cap order unit sp).all (fun b => !isRuleN 4 b) = true := by
  have w0 : isRuleN 4 (.lst [.str "race", .int need, .int lead, cap, order, unit, .lst sp]) = false := by kernel_rfl
  have w1 : isRuleN 4 (.tup [.str "race", .int need, .int lead, cap, order, unit]) = false := by kernel_rfl
  have w2 : isRuleN 4 (.tup [.str "race", .int need, .int lead, cap, order, unit, .lst sp, .int 1]) = false := by kernel_rfl
  have w3 : isRuleN 4 (.tup [.str "Race", .int need, .int lead, cap, order, unit, .lst sp]) = false := by kernel_rfl
  have w4 : isRuleN 4 (.tup [.non, .int need, .int lead, cap, order, unit, .lst sp]) = false := by kernel_rfl
  have w5 : isRuleN 4 (.tup [.str "race", .int 0, .int lead, .non, order, unit, .lst sp]) = false := bad_nums (num1 (by rfl))
  have w6 : isRuleN 4 (.tup [.str "race", .int 31, .int lead, .non, order, unit, .lst sp]) = false := bad_nums (num1 (by rfl))
  have w7 : isRuleN 4 (.tup [.str "race", .bl true, .int lead, .non, order, unit, .lst sp]) = false := bad_nums (num1 (by rfl))
  have w8 : isRuleN 4 (.tup [.str "race", .int need, .int 0, cap, order, unit, .lst sp]) = false := bad_nums (num2 (by rfl))
  have w9 : isRuleN 4 (.tup [.str "race", .int need, .int 4, cap, order, unit, .lst sp]) = false := bad_nums (num2 (by rfl))
  have w10 : isRuleN 4 (.tup [.str "race", .int need, .bl true, cap, order, unit, .lst sp]) = false := bad_nums (num2 (by rfl))
  have w11 : isRuleN 4 (.tup [.str "race", .int need, .int lead, .int (need - 1), order, unit, .lst sp]) = false := bad_nums (num3 (by simp) (by simp only [isBtw, Bool.and_eq_false_iff, decide_eq_false_iff_not]; omega))
  have w12 : isRuleN 4 (.tup [.str "race", .int need, .int lead, .int 41, order, unit, .lst sp]) = false := bad_nums (num3 (by simp) (by simp only [isBtw, Bool.and_eq_false_iff, decide_eq_false_iff_not]; omega))
  have w13 : isRuleN 4 (.tup [.str "race", .int need, .int lead, .str "5", order, unit, .lst sp]) = false := bad_nums (num3 (by simp) (by rfl))
  have w14 : isRuleN 4 (.tup [.str "race", .str (toString need), .int lead, .non, order, unit, .lst sp]) = false := bad_nums (num1 (by rfl))
  have w15 : isRuleN 4 (.tup [.str "race", .int 1, .int lead, .bl true, order, unit, .lst sp]) = false := bad_nums (num3 (by simp) (by rfl))
  have w16 : isRuleN 4 (.tup [.str "race", .int need, .int lead, cap, .non, unit, .lst sp]) = false := bad_order (by kernel_rfl)
  have w17 : isRuleN 4 (.tup [.str "race", .int need, .int lead, cap, .str "on", unit, .lst sp]) = false := bad_order (by kernel_rfl)
  have w18 : isRuleN 4 (.tup [.str "race", .int need, .int lead, cap, .tup [.str "off"], unit, .lst sp]) = false := bad_order (by kernel_rfl)
  have w19 : isRuleN 4 (.tup [.str "race", .int need, .int lead, cap, .tup [.str "on", .lst []], unit, .lst sp]) = false := bad_order (by kernel_rfl)
  have w20 : isRuleN 4 (.tup [.str "race", .int need, .int lead, cap, .tup [.str "row"], unit, .lst sp]) = false := bad_order (by kernel_rfl)
  have w21 : isRuleN 4 (.tup [.str "race", .int need, .int lead, cap, order, .non, .lst sp]) = false := bad_unit (by kernel_rfl)
  have w22 : isRuleN 4 (.tup [.str "race", .int need, .int lead, cap, order, .str "rally", .lst sp]) = false := bad_unit (by kernel_rfl)
  have w23 : isRuleN 4 (.tup [.str "race", .int need, .int lead, cap, order, .tup [.str "rally", .int 1], .lst sp]) = false := bad_unit (by kernel_rfl)
  have w24 : isRuleN 4 (.tup [.str "race", .int need, .int lead, cap, order, unit, .non]) = false := bad_specs (by kernel_rfl)
  have w25 : isRuleN 4 (.tup [.str "race", .int need, .int lead, cap, order, unit, .tup sp]) = false := bad_specs (by kernel_rfl)
  have w26 : isRuleN 4 (.tup [.str "race", .int need, .int lead, cap, order, unit, .lst [.tup [.tup [.int 0, .int 0], .tup [.str "rally"]], .tup [.tup [.int 1, .int 1], .tup [.str "rally"]], .tup [.tup [.int 2, .int 2], .tup [.str "rally"]], .tup [.tup [.int 3, .int 3], .tup [.str "rally"]], .tup [.tup [.int 4, .int 4], .tup [.str "rally"]], .tup [.tup [.int 5, .int 5], .tup [.str "rally"]], .tup [.tup [.int 6, .int 6], .tup [.str "rally"]], .tup [.tup [.int 7, .int 7], .tup [.str "rally"]], .tup [.tup [.int 8, .int 8], .tup [.str "rally"]]]]) = false := bad_specs (by kernel_rfl)
  have w27 : isRuleN 4 (.tup [.str "race", .int need, .int lead, cap, order, unit, .lst [.non]]) = false := bad_specs (by kernel_rfl)
  have w28 : isRuleN 4 (.tup [.str "race", .int need, .int lead, cap, order, unit, .lst [.tup [.tup [.int 1, .int 1]]]]) = false := bad_specs (by kernel_rfl)
  have w29 : isRuleN 4 (.tup [.str "race", .int need, .int lead, cap, order, unit, .lst [.tup [.tup [.int 1, .int 1], .tup [.str "rally"], .int 1]]]) = false := bad_specs (by kernel_rfl)
  have w30 : isRuleN 4 (.tup [.str "race", .int need, .int lead, cap, order, unit, .lst [.lst [.tup [.int 1, .int 1], .tup [.str "rally"]]]]) = false := bad_specs (by kernel_rfl)
  have w31 : isRuleN 4 (.tup [.str "race", .int need, .int lead, cap, order, unit, .lst [.tup [.lst [.int 1, .int 1], .tup [.str "rally"]]]]) = false := bad_specs (by kernel_rfl)
  have w32 : isRuleN 4 (.tup [.str "race", .int need, .int lead, cap, order, unit, .lst [.tup [.tup [.int 1], .tup [.str "rally"]]]]) = false := bad_specs (by kernel_rfl)
  have w33 : isRuleN 4 (.tup [.str "race", .int need, .int lead, cap, order, unit, .lst [.tup [.tup [.int 1, .int 41], .tup [.str "rally"]]]]) = false := bad_specs (by kernel_rfl)
  have w34 : isRuleN 4 (.tup [.str "race", .int need, .int lead, cap, order, unit, .lst [.tup [.tup [.int (0 - 1), .int 1], .tup [.str "rally"]]]]) = false := bad_specs (by kernel_rfl)
  have w35 : isRuleN 4 (.tup [.str "race", .int need, .int lead, cap, order, unit, .lst [.tup [.tup [.bl true, .int 1], .tup [.str "rally"]]]]) = false := bad_specs (by kernel_rfl)
  have w36 : isRuleN 4 (.tup [.str "race", .int need, .int lead, cap, order, unit, .lst [.tup [.tup [.int 1, .int 1], .non]]]) = false := bad_specs (by kernel_rfl)
  have w37 : isRuleN 4 (.tup [.str "race", .int need, .int lead, cap, order, unit, .lst [.tup [.tup [.int 1, .int 1], .tup [.str "rallies"]]]]) = false := bad_specs (by kernel_rfl)
  have w38 : isRuleN 4 (.tup [.str "race", .int need, .int lead, cap, order, unit, .lst [.tup [.tup [.int 1, .int 1], .tup [.str "rally"]], .tup [.tup [.int 1, .int 1], .tup [.str "hand"]]]]) = false := bad_specs (by kernel_rfl)
  have w39 : isRuleN 4 (.tup [.str "race", .int need, .int lead, cap, order, unit, .lst [.tup [.tup [.int 1, .int 2], .tup [.str "rally"]], .tup [.tup [.int 1, .int 1], .tup [.str "hand"]]]]) = false := bad_specs (by kernel_rfl)
  simp only [wrongs, List.all_cons, List.all_nil, w0, w1, w2, w3, w4, w5, w6, w7, w8, w9, w10, w11, w12, w13, w14, w15, w16, w17, w18, w19, w20, w21, w22, w23, w24, w25, w26, w27, w28, w29, w30, w31, w32, w33, w34, w35, w36, w37, w38, w39]
  rfl
end K1

set_option maxHeartbeats 4000000
namespace K1
open PySem PySem.Spec PyProof.Rows L2 DL
theorem wrong_body {a b c need lead : Int} {cap order unit : D} {sp : List D} (n1 : 1 ≤ need) (n2 : need ≤ 30) (hs : sp = [] ∨ ∃ s, sp = [s]) :
    bodyD N__law_wrong_races 1 b__law_wrong_races [raceT need lead cap order unit sp] [gen a b c] = .ok (.lst (wrongs need lead cap order unit sp)) ([gen a b c] ++ outS (bodyD N__law_wrong_races 1 b__law_wrong_races [raceT need lead cap order unit sp] [gen a b c])) := by
  have h : need = 1 ∨ need = 2 ∨ need = 3 ∨ need = 4 ∨ need = 5 ∨ need = 6 ∨ need = 7 ∨ need = 8 ∨ need = 9 ∨ need = 10 ∨ need = 11 ∨ need = 12 ∨ need = 13 ∨ need = 14 ∨ need = 15 ∨ need = 16 ∨ need = 17 ∨ need = 18 ∨ need = 19 ∨ need = 20 ∨ need = 21 ∨ need = 22 ∨ need = 23 ∨ need = 24 ∨ need = 25 ∨ need = 26 ∨ need = 27 ∨ need = 28 ∨ need = 29 ∨ need = 30 := by omega
  rcases hs with rfl | ⟨s, rfl⟩
  · rcases h with rfl | rfl | rfl | rfl | rfl | rfl | rfl | rfl | rfl | rfl | rfl | rfl | rfl | rfl | rfl | rfl | rfl | rfl | rfl | rfl | rfl | rfl | rfl | rfl | rfl | rfl | rfl | rfl | rfl | rfl <;> kernel_rfl
  · rcases h with rfl | rfl | rfl | rfl | rfl | rfl | rfl | rfl | rfl | rfl | rfl | rfl | rfl | rfl | rfl | rfl | rfl | rfl | rfl | rfl | rfl | rfl | rfl | rfl | rfl | rfl | rfl | rfl | rfl | rfl <;> kernel_rfl
theorem strOk_need {need : Int} (n1 : 1 ≤ need) (n2 : need ≤ 30) : PyData.strOk (toString need : String) = true := by
  have h : need = 1 ∨ need = 2 ∨ need = 3 ∨ need = 4 ∨ need = 5 ∨ need = 6 ∨ need = 7 ∨ need = 8 ∨ need = 9 ∨ need = 10 ∨ need = 11 ∨ need = 12 ∨ need = 13 ∨ need = 14 ∨ need = 15 ∨ need = 16 ∨ need = 17 ∨ need = 18 ∨ need = 19 ∨ need = 20 ∨ need = 21 ∨ need = 22 ∨ need = 23 ∨ need = 24 ∨ need = 25 ∨ need = 26 ∨ need = 27 ∨ need = 28 ∨ need = 29 ∨ need = 30 := by omega
  rcases h with rfl | rfl | rfl | rfl | rfl | rfl | rfl | rfl | rfl | rfl | rfl | rfl | rfl | rfl | rfl | rfl | rfl | rfl | rfl | rfl | rfl | rfl | rfl | rfl | rfl | rfl | rfl | rfl | rfl | rfl <;> decide +kernel
theorem wrongs_fit {need lead : Int} {cap order unit : D} {sp : List D} (n1 : 1 ≤ need) (n2 : need ≤ 30) (f1 : fit cap 29 = true) (f2 : fit order 29 = true) (f3 : fit unit 29 = true) (f4 : fits sp 28 = true) : fits (wrongs need lead cap order unit sp) 30 = true := by
  have k1 : PyData.strOk "race" = true := by decide +kernel
  have k2 : PyData.strOk "Race" = true := by decide +kernel
  have k3 : PyData.strOk "rally" = true := by decide +kernel
  have k4 : PyData.strOk "hand" = true := by decide +kernel
  have k5 : PyData.strOk "on" = true := by decide +kernel
  have k6 : PyData.strOk "off" = true := by decide +kernel
  have k7 : PyData.strOk "row" = true := by decide +kernel
  have k8 : PyData.strOk "rallies" = true := by decide +kernel
  have k9 : PyData.strOk "5" = true := by decide +kernel
  have k0 := strOk_need n1 n2
  simp only [wrongs, fits, fit, k1, k2, k3, k4, k5, k6, k7, k8, k9, k0, f1, f2, f3, f4, Bool.and_self]
theorem wrong_ok {n : Nat} {x : CO} (G : Gn n x) {need lead : Int} {cap order unit : D} {sp : List D} {k : Nat} (h : Rc need lead cap order unit sp k) (hk : k ≤ 3) :
    g__law_wrong_races [raceT need lead cap order unit sp] [x] = .ok (.lst (wrongs need lead cap order unit sp)) [x] ∧ fits (wrongs need lead cap order unit sp) 30 = true := by
  obtain ⟨a, b, c, rfl, _⟩ := G
  have f1 : fit cap 29 = true := by
    rcases h.cap_ with rfl | rfl | rfl <;> simp [fit]
  have f4 : fits sp 28 = true := by
    rcases h.sp_ with rfl | ⟨t, _, _, rfl⟩
    · rfl
    · have u := fit_up (show 3 * k + 2 ≤ 27 by omega) h.unit_.fit_
      simp only [fits, fit, u, Bool.and_self]
  have ft := wrongs_fit (lead := lead) h.n1 h.n2 f1 (fit_up (by decide) h.ord.fit_) (fit_up (show 3 * k + 2 ≤ 29 by omega) h.unit_.fit_) f4
  refine ⟨?_, ft⟩
  refine bodyT_to (T := [gen a b c]) (wrong_body h.n1 h.n2 ?_) rfl rfl (fits_nc (n := 30) ft)
  rcases h.sp_ with rfl | ⟨t, _, _, rfl⟩
  · exact .inl rfl
  · exact .inr ⟨_, rfl⟩
end K1

set_option maxHeartbeats 4000000
namespace K1
open PySem PySem.Spec PyProof.Rows L2 DL
theorem int_small : ∀ n : Fin 64, ((toString ((n.val : Nat) : Int) : String) : Str).length ≤ 8 ∧ ((n.val : Nat) : Int).natAbs.log2 < 1920 := by decide +kernel
theorem int_len {i : Int} (h0 : 0 ≤ i) (h : i < 64) : ((toString i : String) : Str).length ≤ 8 ∧ i.natAbs.log2 < 1920 := by
  have q := int_small ⟨i.toNat, by omega⟩
  rw [show ((i.toNat : Nat) : Int) = i by omega] at q
  exact q
theorem word_len : ∀ x ∈ wordsR, (PyData.shown (.str x)).length ≤ 8 := by
  intro x h
  simp only [wordsR, List.mem_cons, List.not_mem_nil, or_false] at h
  rcases h with rfl | rfl | rfl | rfl | rfl | rfl | rfl | rfl <;> decide +kernel
theorem from_len : ∀ (ts : List Str) (m : Nat) (acc : Str), (textFrom m acc ts).length ≤ acc.length + piled ts
  | [], m, acc => by
    show acc.length ≤ _
    omega
  | t :: ts, m, acc => by
    have ih := from_len ts (m + 1) (acc ++ (if m > 0 then ", " else "" : String) ++ t)
    have e : ((if m > 0 then ", " else "" : String) : Str).length ≤ 2 := by
      by_cases c : m > 0
      · rw [if_pos c]
        decide +kernel
      · rw [if_neg c]
        decide +kernel
    rw [strLen_append, strLen_append] at ih
    show (textFrom (m + 1) _ ts).length ≤ _
    rw [piled_cons]
    omega
theorem list_len (ts : List Str) : (listText ts).length ≤ piled ts + 4 := by
  have h := from_len ts 0 "["
  unfold listText
  rw [strLen_append]
  have e1 : ("[" : Str).length = 1 := by decide +kernel
  have e2 : ("]" : Str).length = 1 := by decide +kernel
  omega
theorem tuple_len (ts : List Str) : (tupleText ts).length ≤ piled ts + 4 := by
  unfold tupleText
  rw [strLen_append, strLen_append]
  have e1 : ("(" : Str).length = 1 := by decide +kernel
  have e2 : ((if ts.length == 1 then ",)" else ")" : String) : Str).length ≤ 2 := by
    by_cases c : (ts.length == 1) = true
    · rw [if_pos c]
      decide +kernel
    · rw [if_neg c]
      decide +kernel
  by_cases h : ts = []
  · subst h
    have e3 : (Str.join ", " []).length = 0 := by decide +kernel
    omega
  · have := join_length_add ts h
    omega
mutual
theorem shown_len {S : Sto} : ∀ {d : D} {p : PyData}, tiny d = true → toP S d = some p → p.shown.length ≤ bnd d ∧ p.showable = true
  | .non, p, _, h => by
    cases h
    exact ⟨by decide +kernel, rfl⟩
  | .bl _, _, t, _ => by simp [tiny] at t
  | .int i, p, t, h => by
    cases h
    simp only [tiny, Bool.and_eq_true, decide_eq_true_eq] at t
    have q := int_len t.1 t.2
    exact ⟨by simpa only [PyData.shown, bnd] using q.1, by simpa only [PyData.showable, decide_eq_true_eq] using q.2⟩
  | .str x, p, t, h => by
    cases h
    simp only [tiny, List.contains_iff_mem] at t
    exact ⟨word_len x t, rfl⟩
  | .lst xs, p, t, h => by
    simp only [toP] at h
    cases e : toPs S xs with
    | none => rw [e] at h; cases h
    | some ps =>
      rw [e] at h
      cases h
      obtain ⟨a, b⟩ := shown_lens (by simpa only [tiny] using t) e
      refine ⟨?_, by simpa only [PyData.showable] using b⟩
      have q := list_len (PyData.shownAll ps)
      simp only [PyData.shown, bnd]
      omega
  | .tup xs, p, t, h => by
    simp only [toP] at h
    cases e : toPs S xs with
    | none => rw [e] at h; cases h
    | some ps =>
      rw [e] at h
      cases h
      obtain ⟨a, b⟩ := shown_lens (by simpa only [tiny] using t) e
      refine ⟨?_, by simpa only [PyData.showable] using b⟩
      have q := tuple_len (PyData.shownAll ps)
      simp only [PyData.shown, bnd]
      omega
  | .kls _, _, t, _ => by simp [tiny] at t
  | .dct _, _, t, _ => by simp [tiny] at t
  | .cel _, _, t, _ => by simp [tiny] at t
  | .fn _, _, t, _ => by simp [tiny] at t
theorem shown_lens {S : Sto} : ∀ {ds : List D} {ps : List PyData}, tinys ds = true → toPs S ds = some ps → piled (PyData.shownAll ps) ≤ bnds ds ∧ PyData.showableAll ps = true
  | [], ps, _, h => by
    cases h
    exact ⟨Nat.le_refl _, rfl⟩
  | d :: ds, ps, t, h => by
    simp only [tinys, Bool.and_eq_true] at t
    simp only [toPs] at h
    split at h
    · rename_i p qs e1 e2
      cases h
      obtain ⟨a1, b1⟩ := shown_len t.1 e1
      obtain ⟨a2, b2⟩ := shown_lens t.2 e2
      refine ⟨?_, by simp only [PyData.showableAll, b1, b2, Bool.and_self]⟩
      simp only [PyData.shownAll, piled_cons, bnds]
      omega
    · cases h
end
/-- repr([rule, drawn]) is a text -/
theorem repr_ok {S : Sto} {k j : Nat} {r d : D} (hk : k ≤ 4) (hj : j ≤ 4) (hr : Dr k r) (hd : Dr j d) : ∃ t : Str, reprD [.lst [r, d]] S = some (.str t) := by
  have f : fit (.lst [r, d]) 15 = true := by
    show fits [r, d] 14 = true
    simp only [fits, fit_up (show 3 * k + 2 ≤ 14 by omega) hr.fit_, fit_up (show 3 * j + 2 ≤ 14 by omega) hd.fit_, Bool.and_self]
  obtain ⟨p, hp, c1, c2⟩ := fit_to (S := S) f
  have t : tiny (.lst [r, d]) = true := by
    show tinys [r, d] = true
    simp only [tinys, hr.tiny_, hd.tiny_, Bool.and_self]
  obtain ⟨l, sh⟩ := shown_len t hp
  have pw : ∀ m : Nat, m ≤ 4 → 4 ^ m ≤ 256 := fun m hm => Nat.pow_le_pow_right (by decide) hm
  have b : bnd (.lst [r, d]) ≤ 200000 := by
    have b1 := hr.bnd_
    have b2 := hd.bnd_
    have p1 := pw k hk
    have p2 := pw j hj
    simp only [bnd, bnds]
    omega
  refine ⟨p.shown, ?_⟩
  have d1 : decide (p.depth ≤ 64) = true := decide_eq_true (by omega)
  have d2 : decide (p.shown.length ≤ capN) = true := decide_eq_true (Nat.le_of_lt (capN_of (by omega)))
  show (match toP S (.lst [r, d]) with
    | some p => if p.showable && decide (p.depth ≤ 64) && decide (p.shown.length ≤ capN) then some (D.str p.shown) else none
    | none => none) = _
  rw [hp]
  show (if (p.showable && decide (p.depth ≤ 64) && decide (p.shown.length ≤ capN)) = true then _ else _) = _
  rw [sh, d1, d2]
  rfl
end K1

set_option maxHeartbeats 4000000
namespace K1
open PySem PySem.Spec PyProof.Rows L2 DL
theorem same_bl (u v : Bool) (a b c : Int) : g__law_same 16 [.bl u, .bl v] [gen a b c] = .ok (.bl (u == v)) [gen a b c] := by
  cases u <;> cases v <;> kernel_rfl
theorem free1 (a b c : Int) : List.all [gen a b c] coFree = true := rfl
/-! ### rules one deeper each time -/
def deepBody : FS := (fSeq (fAsg (fTup (fCons (fC (.str "race")) (fCons (fC (.int 1)) (fCons (fC (.int 1)) (fCons (fC .non) (fCons (fTup (fCons (fC (.str "on")) fNil)) (fCons (fVar 7) (fCons (fLst fNil) fNil)))))))) (fgName 7)) (fIfS (fNot (fB (fCall 2 (g__law_same 16) (fCons (fCall 1 g_is_rule (fCons (fVar 7) fNil)) (fCons (fOp leD (fOp addD (fOp addD (fVar 2) (fVar 8)) (fC (.int 1))) (fC (.int 4))) fNil))))) (fRet (fC (.bl false))) fNext))
def env7 (scr : D) (deep : Int) (r dr : D) (kept : Str) (deeper : D) (t : Option D) : DL.Env := [some scr, some (.cel 0), some (.int deep), some r, some dr, some (.str kept), none, some deeper, t, none, none, none]
theorem deep_loop {a b c : Int} {scr r dr : D} {kept : Str} {K : Nat} : ∀ (m t0 : Nat) {deeper : D} {t : Option D}, K + t0 + m ≤ 8 → Nst (K + t0) deeper →
    ∃ deeper' t', loopD (fgName 8) deepBody ((List.range m).map fun i => .int ((t0 + i : Nat) : Int)) (env7 scr K r dr kept deeper t) [gen a b c] = .ok (.nx, env7 scr K r dr kept deeper' t') [gen a b c]
  | 0, t0, deeper, t, _, _ => ⟨deeper, t, rfl⟩
  | m + 1, t0, deeper, t, hk, h => by
    have o : Or (.tup [.str "on"]) := ⟨by decide +kernel, by decide +kernel, by decide +kernel, by decide⟩
    have rc : Rc 1 1 .non (.tup [.str "on"]) deeper [] (K + t0) := ⟨by decide, by decide, by decide, by decide, .inl rfl, o, h.dr, h.only, .inl rfl⟩
    have n := rc.nst
    have e1 := is_rule_ok (free1 a b c) n.dr.fit_ (by omega)
    rw [n.only] at e1
    have e2 : decide (((K : Nat) : Int) + ((t0 + 0 : Nat) : Int) + 1 ≤ 4) = decide (K + t0 + 1 ≤ 4) := by
      rw [decide_eq_decide]
      omega
    have e3 := same_bl (decide (K + t0 + 1 ≤ 4)) (decide (K + t0 + 1 ≤ 4)) a b c
    rw [beq_self_eq_true] at e3
    obtain ⟨d2, t2, e4⟩ := deep_loop (a := a) (b := b) (c := c) (scr := scr) (r := r) (dr := dr) (kept := kept) (K := K) m (t0 + 1) (deeper := raceT 1 1 .non (.tup [.str "on"]) deeper []) (t := some (.int ((t0 + 0 : Nat) : Int))) (by omega) n
    refine ⟨d2, t2, ?_⟩
    rw [List.range_succ_eq_map, List.map_cons, List.map_map]
    have ea : ((fun i : Nat => D.int ((t0 + i : Nat) : Int)) ∘ Nat.succ) = fun i : Nat => D.int ((t0 + 1 + i : Nat) : Int) := funext fun i => by
      show D.int ((t0 + (i + 1) : Nat) : Int) = _
      rw [show t0 + (i + 1) = t0 + 1 + i by omega]
    rw [ea]
    unfold loopD
    have sb : deepBody (env7 scr K r dr kept deeper (some (.int ((t0 + 0 : Nat) : Int)))) [gen a b c] = .ok (.nx, env7 scr K r dr kept (raceT 1 1 .non (.tup [.str "on"]) deeper []) (some (.int ((t0 + 0 : Nat) : Int)))) [gen a b c] := by
      generalize decide (K + t0 + 1 ≤ 4) = q at *
      unfold raceT at e1
      simp only [deepBody, fC_ap, fVar_ap, fOp_ap, fB_ap, fAnd_ap, fOr_ap, fNot_ap, fAndV_ap, fOrV_ap, fNotV_ap, fIf_ap, fNil_ap, fCons_ap, fTup_ap, fLst_ap, fLstC_ap, fNoPart_ap, fPart_ap, fSl_ap, fNeg_ap, fCB_ap, fIsi_ap, fIsi2_ap, fNext_ap, fSeq_ap, fRet_ap, fRetF_ap, fgName_ap, fgNil_ap, fgCons_ap, fgTup_ap, fgSub_ap, fAsg_ap, fPar_ap, fPar3_ap, fDrop_ap, fApp_ap, fIfS_ap, fiSeq_ap, fiTup_ap, fiEnum_ap, fYes_ap, fCall_ap, fCall0_ap, fChain_ap, fBits_ap, fAddC_ap, fiAny_ap, Res.bind_ok, asB_ok, okO_some, bodyD, asB, iterOf, withLock_none, noErr_ok, wipeE, List.map_cons, List.map_nil, List.length_cons, List.length_nil, List.cons_append, List.nil_append, List.getElem?_cons_zero, List.getElem?_cons_succ, List.set_cons_zero, List.set_cons_succ, if_true, Bool.false_eq_true, if_false, Nat.reduceAdd, Nat.reduceSub, Nat.zero_add, List.replicate, tyD, atI_0, atI_1, lenD_lst, lenD_tup, ixD_tup, ixD_lst, eqD_int, eqD_str, neD_int, neD_str, leD_int, ltD_int, gtD_int, geD_int, addD_int, subD_int, intD_int, gx0, gx1, gx2, gs0, gs2, capN, Nat.zero_le, Nat.reduceLeDiff, Nat.reduceEqDiff, Nat.reduceLT, Bool.not_true, Bool.not_false, Bool.true_and, Bool.false_and, env7, e1, e2, e3]
      rfl
    have st : fgName 8 (.int ((t0 + 0 : Nat) : Int)) (env7 scr K r dr kept deeper t) [gen a b c] = .ok (env7 scr K r dr kept deeper (some (.int ((t0 + 0 : Nat) : Int)))) [gen a b c] := rfl
    rw [st]
    simp only [Res.bind_ok, sb, e4]
/-! ### the rest -/
def valOf (e : FE) : D := match e (List.replicate 12 none) [] with
  | .ok d _ => d
  | _ => .non
def SV : D := valOf (fTup (fCons (fC (.str "race")) (fCons (fC (.int 2)) (fCons (fC (.int 1)) (fCons (fC .non) (fCons (fTup (fCons (fC (.str "on")) fNil)) (fCons (fTup (fCons (fC (.str "rally")) fNil)) (fCons (fLst (fCons (fTup (fCons (fTup (fCons (fC (.int 1)) (fCons (fC (.int 1)) fNil))) (fCons (fTup (fCons (fC (.str "race")) (fCons (fC (.int 1)) (fCons (fC (.int 1)) (fCons (fC .non) (fCons (fTup (fCons (fC (.str "on")) fNil)) (fCons (fTup (fCons (fC (.str "race")) (fCons (fC (.int 1)) (fCons (fC (.int 1)) (fCons (fC .non) (fCons (fTup (fCons (fC (.str "on")) fNil)) (fCons (fTup (fCons (fC (.str "race")) (fCons (fC (.int 1)) (fCons (fC (.int 1)) (fCons (fC .non) (fCons (fTup (fCons (fC (.str "on")) fNil)) (fCons (fTup (fCons (fC (.str "rally")) fNil)) (fCons (fLst fNil) fNil)))))))) (fCons (fLst fNil) fNil)))))))) (fCons (fLst fNil) fNil)))))))) fNil))) fNil)) fNil))))))))
def WV : D := valOf (fTup (fCons (fC (.str "race")) (fCons (fC (.int 30)) (fCons (fC (.int 3)) (fCons (fC (.int 40)) (fCons (fTup (fCons (fC (.str "row")) (fCons (fOp mulD (fLst (fCons (fC (.int 0)) fNil)) (fC (.int 8))) fNil))) (fCons (fTup (fCons (fC (.str "rally")) fNil)) (fCons (fLc [11] (fiRng1 (fCons (fC (.int 8)) fNil)) (fgName 11) fYes (fTup (fCons (fTup (fCons (fVar 11) (fCons (fC (.int 40)) fNil))) (fCons (fTup (fCons (fC (.str "hand")) fNil)) fNil)))) fNil))))))))
def env11 (scr : D) (deep : Int) (r dr : D) (kept : Str) (deeper : D) (t : Option D) : DL.Env := [some scr, some (.cel 0), some (.int deep), some r, some dr, some (.str kept), none, some deeper, t, some SV, some WV, none]
theorem hand_ok (a b c : Int) : g_is_rule [.tup [.str "hand"]] [gen a b c] = .ok (.bl true) [gen a b c] := by kernel_rfl
end K1

set_option maxHeartbeats 4000000
namespace K1
open PySem PySem.Spec PyProof.Rows L2 DL
theorem closed_8 (a b c : Int) (scr : D) (deep : Int) (r dr : D) (kept : Str) (deeper : D) (t : Option D) : (fIfS (fB (fOp neD (fLc [6] (fiAny (fLst (fCons (fC .non) (fCons (fC (.int 7)) (fCons (fC (.str "rally")) (fCons (fLst (fCons (fC (.str "rally")) fNil)) (fCons (fTup (fCons (fC (.str "rally")) (fCons (fC (.int 1)) fNil))) (fCons (fTup (fCons (fC (.str "hands")) fNil)) (fCons (fTup fNil) (fCons (fTup (fCons (fC .non) fNil)) (fCons (fC (.dct [])) fNil))))))))))) (fgName 6) (fB (fOp isnotD (fCall 1 g_is_rule (fCons (fVar 6) fNil)) (fC (.bl false)))) (fVar 6)) (fLst fNil))) (fRet (fC (.bl false))) fNext) (env7 scr deep r dr kept deeper t) [gen a b c] = .ok (.nx, env7 scr deep r dr kept deeper t) [gen a b c] := by kernel_rfl
theorem closed_9 (a b c : Int) (scr : D) (deep : Int) (r dr : D) (kept : Str) (deeper : D) (t : Option D) (rest : FS) : fSeq (fAsg (fTup (fCons (fC (.str "race")) (fCons (fC (.int 2)) (fCons (fC (.int 1)) (fCons (fC .non) (fCons (fTup (fCons (fC (.str "on")) fNil)) (fCons (fTup (fCons (fC (.str "rally")) fNil)) (fCons (fLst (fCons (fTup (fCons (fTup (fCons (fC (.int 1)) (fCons (fC (.int 1)) fNil))) (fCons (fTup (fCons (fC (.str "race")) (fCons (fC (.int 1)) (fCons (fC (.int 1)) (fCons (fC .non) (fCons (fTup (fCons (fC (.str "on")) fNil)) (fCons (fTup (fCons (fC (.str "race")) (fCons (fC (.int 1)) (fCons (fC (.int 1)) (fCons (fC .non) (fCons (fTup (fCons (fC (.str "on")) fNil)) (fCons (fTup (fCons (fC (.str "race")) (fCons (fC (.int 1)) (fCons (fC (.int 1)) (fCons (fC .non) (fCons (fTup (fCons (fC (.str "on")) fNil)) (fCons (fTup (fCons (fC (.str "rally")) fNil)) (fCons (fLst fNil) fNil)))))))) (fCons (fLst fNil) fNil)))))))) (fCons (fLst fNil) fNil)))))))) fNil))) fNil)) fNil)))))))) (fgName 9)) (fSeq (fAsg (fTup (fCons (fC (.str "race")) (fCons (fC (.int 30)) (fCons (fC (.int 3)) (fCons (fC (.int 40)) (fCons (fTup (fCons (fC (.str "row")) (fCons (fOp mulD (fLst (fCons (fC (.int 0)) fNil)) (fC (.int 8))) fNil))) (fCons (fTup (fCons (fC (.str "rally")) fNil)) (fCons (fLc [11] (fiRng1 (fCons (fC (.int 8)) fNil)) (fgName 11) fYes (fTup (fCons (fTup (fCons (fVar 11) (fCons (fC (.int 40)) fNil))) (fCons (fTup (fCons (fC (.str "hand")) fNil)) fNil)))) fNil)))))))) (fgName 10)) (fSeq (fIfS (fNot (fB (fCall 2 (g__law_same 16) (fCons (fLst (fCons (fCall 1 g_is_rule (fCons (fVar 9) fNil)) (fCons (fCall 1 g_is_rule (fCons (fTup (fCons (fC (.str "race")) (fCons (fC (.int 1)) (fCons (fC (.int 1)) (fCons (fC .non) (fCons (fTup (fCons (fC (.str "on")) fNil)) (fCons (fVar 9) (fCons (fLst fNil) fNil)))))))) fNil)) (fCons (fCall 1 g_is_rule (fCons (fVar 10) fNil)) fNil)))) (fCons (fLst (fCons (fC (.bl true)) (fCons (fC (.bl false)) (fCons (fC (.bl true)) fNil)))) fNil))))) (fRet (fC (.bl false))) fNext) rest)) (env7 scr deep r dr kept deeper t) [gen a b c] = rest (env11 scr deep r dr kept deeper t) [gen a b c] := by kernel_rfl
end K1

set_option maxHeartbeats 4000000
namespace K1
open PySem PySem.Spec PyProof.Rows L2 DL
theorem law_ok : LawOk g_law 63 := by
  intro ns _ _
  obtain ⟨x0, e0, G0⟩ := generator_ok (ns := ns)
  have hn : List.all ([] : Sto) coFree = true := rfl
  obtain ⟨x1, v, e1, G1, v1, v2⟩ := random_ok G0 (by decide) hn (bd := 4) (by decide) (by decide)
  obtain ⟨K, hK⟩ : ∃ K : Nat, (K : Int) = 1 + v := ⟨(1 + v).toNat, by omega⟩
  obtain ⟨x2, r, e2, G2, tp⟩ := nested_ok (deep := K) (by omega) G1 (by decide) hn
  obtain ⟨x3, w, e3, G3, w1, w2⟩ := random_ok G2 (by decide) hn (bd := 4) (by decide) (by decide)
  obtain ⟨J, hJ⟩ : ∃ J : Nat, (J : Int) = 1 + w := ⟨(1 + w).toNat, by omega⟩
  have hD : ∀ j : Nat, j ≤ 4 → Dn j ≤ 10000 := fun j hj => by
    have : j = 0 ∨ j = 1 ∨ j = 2 ∨ j = 3 ∨ j = 4 := by omega
    rcases this with rfl | rfl | rfl | rfl | rfl <;> decide
  obtain ⟨x4, dr, e4, G4, hd⟩ := rule_draw J (by omega) 16 (by omega) G3 (by have := hD J (by omega); omega) hn
  have G4' := G4
  obtain ⟨a, b, c, rfl, _⟩ := G4
  obtain ⟨kept, e5⟩ := repr_ok (S := [gen a b c]) (show K ≤ 4 by omega) (show J ≤ 4 by omega) tp.1.dr hd
  have f1 := is_rule_ok (free1 a b c) tp.1.dr.fit_ (by omega)
  rw [tp.1.only, decide_eq_true (show K ≤ 4 by omega)] at f1
  have f2 := is_rule_ok (free1 a b c) hd.fit_ (by omega)
  rw [rule_le hd.rule (show J ≤ 4 by omega)] at f2
  have f3 := rally_ok a b c
  have f4 := hand_ok a b c
  -- the race
  obtain ⟨need, lead, cap, order, unit, sp, rfl, rc⟩ : ∃ need lead cap order unit sp, r = raceT need lead cap order unit sp ∧ Rc need lead cap order unit sp (K - 1) := by
    rcases tp.2 with z | z
    · omega
    · exact z
  obtain ⟨g1, g2⟩ := wrong_ok G4' rc (by omega)
  have hb := wrongs_bad (need := need) (lead := lead) (cap := cap) (order := order) (unit := unit) (sp := sp)
  generalize hR : raceT need lead cap order unit sp = r at *
  generalize hW : wrongs need lead cap order unit sp = ws at *
  have lw : ws.length ≤ 1000 := by
    rw [← hW]
    simp only [wrongs, List.length_cons, List.length_nil]
    decide
  let e6 (q : Option D) : DL.Env := [some (.kls (ns.map .int)), some (.cel 0), some (.int K), some r, some dr, some (.str kept), q, none, none, none, none, none]
  have s0 : (fAsg (fCall 2 g__law_generator (fCons (fVar 0) (fCons (fC (.int 0)) fNil))) (fgName 1)) [some (.kls (ns.map .int)), none, none, none, none, none, none, none, none, none, none, none] [] = .ok (.nx, [some (.kls (ns.map .int)), some (.cel 0), none, none, none, none, none, none, none, none, none, none]) [x0] := by
    simp only [fC_ap, fVar_ap, fOp_ap, fB_ap, fAnd_ap, fOr_ap, fNot_ap, fAndV_ap, fOrV_ap, fNotV_ap, fIf_ap, fNil_ap, fCons_ap, fTup_ap, fLst_ap, fLstC_ap, fNoPart_ap, fPart_ap, fSl_ap, fNeg_ap, fCB_ap, fIsi_ap, fIsi2_ap, fNext_ap, fSeq_ap, fRet_ap, fRetF_ap, fgName_ap, fgNil_ap, fgCons_ap, fgTup_ap, fgSub_ap, fAsg_ap, fPar_ap, fPar3_ap, fDrop_ap, fApp_ap, fIfS_ap, fiSeq_ap, fiTup_ap, fiEnum_ap, fYes_ap, fCall_ap, fCall0_ap, fChain_ap, fBits_ap, fAddC_ap, fiAny_ap, Res.bind_ok, asB_ok, okO_some, bodyD, asB, iterOf, withLock_none, noErr_ok, wipeE, List.map_cons, List.map_nil, List.length_cons, List.length_nil, List.cons_append, List.nil_append, List.getElem?_cons_zero, List.getElem?_cons_succ, List.set_cons_zero, List.set_cons_succ, if_true, Bool.false_eq_true, if_false, Nat.reduceAdd, Nat.reduceSub, Nat.zero_add, List.replicate, tyD, atI_0, atI_1, lenD_lst, lenD_tup, ixD_tup, ixD_lst, eqD_int, eqD_str, neD_int, neD_str, leD_int, ltD_int, gtD_int, geD_int, addD_int, subD_int, intD_int, gx0, gx1, gx2, gs0, gs2, capN, Nat.zero_le, Nat.reduceLeDiff, Nat.reduceEqDiff, Nat.reduceLT, Bool.not_true, Bool.not_false, Bool.true_and, Bool.false_and, e0]
  have s1 : (fAsg (fOp addD (fC (.int 1)) (fCall 2 g__law_random (fCons (fVar 1) (fCons (fC (.int 4)) fNil)))) (fgName 2)) [some (.kls (ns.map .int)), some (.cel 0), none, none, none, none, none, none, none, none, none, none] [x0] = .ok (.nx, [some (.kls (ns.map .int)), some (.cel 0), some (.int K), none, none, none, none, none, none, none, none, none]) [x1] := by
    simp only [fC_ap, fVar_ap, fOp_ap, fB_ap, fAnd_ap, fOr_ap, fNot_ap, fAndV_ap, fOrV_ap, fNotV_ap, fIf_ap, fNil_ap, fCons_ap, fTup_ap, fLst_ap, fLstC_ap, fNoPart_ap, fPart_ap, fSl_ap, fNeg_ap, fCB_ap, fIsi_ap, fIsi2_ap, fNext_ap, fSeq_ap, fRet_ap, fRetF_ap, fgName_ap, fgNil_ap, fgCons_ap, fgTup_ap, fgSub_ap, fAsg_ap, fPar_ap, fPar3_ap, fDrop_ap, fApp_ap, fIfS_ap, fiSeq_ap, fiTup_ap, fiEnum_ap, fYes_ap, fCall_ap, fCall0_ap, fChain_ap, fBits_ap, fAddC_ap, fiAny_ap, Res.bind_ok, asB_ok, okO_some, bodyD, asB, iterOf, withLock_none, noErr_ok, wipeE, List.map_cons, List.map_nil, List.length_cons, List.length_nil, List.cons_append, List.nil_append, List.getElem?_cons_zero, List.getElem?_cons_succ, List.set_cons_zero, List.set_cons_succ, if_true, Bool.false_eq_true, if_false, Nat.reduceAdd, Nat.reduceSub, Nat.zero_add, List.replicate, tyD, atI_0, atI_1, lenD_lst, lenD_tup, ixD_tup, ixD_lst, eqD_int, eqD_str, neD_int, neD_str, leD_int, ltD_int, gtD_int, geD_int, addD_int, subD_int, intD_int, gx0, gx1, gx2, gs0, gs2, capN, Nat.zero_le, Nat.reduceLeDiff, Nat.reduceEqDiff, Nat.reduceLT, Bool.not_true, Bool.not_false, Bool.true_and, Bool.false_and, e1, hK]
  have s2 : (fPar 3 4 (fCons (fCall 2 g__law_nested (fCons (fVar 1) (fCons (fVar 2) fNil))) (fCons (fCall 3 (g__law_rule 16) (fCons (fVar 1) (fCons (fOp addD (fC (.int 1)) (fCall 2 g__law_random (fCons (fVar 1) (fCons (fC (.int 4)) fNil)))) (fCons (fC (.int 30)) fNil)))) fNil))) [some (.kls (ns.map .int)), some (.cel 0), some (.int K), none, none, none, none, none, none, none, none, none] [x1] = .ok (.nx, [some (.kls (ns.map .int)), some (.cel 0), some (.int K), some r, some dr, none, none, none, none, none, none, none]) [gen a b c] := by
    simp only [fC_ap, fVar_ap, fOp_ap, fB_ap, fAnd_ap, fOr_ap, fNot_ap, fAndV_ap, fOrV_ap, fNotV_ap, fIf_ap, fNil_ap, fCons_ap, fTup_ap, fLst_ap, fLstC_ap, fNoPart_ap, fPart_ap, fSl_ap, fNeg_ap, fCB_ap, fIsi_ap, fIsi2_ap, fNext_ap, fSeq_ap, fRet_ap, fRetF_ap, fgName_ap, fgNil_ap, fgCons_ap, fgTup_ap, fgSub_ap, fAsg_ap, fPar_ap, fPar3_ap, fDrop_ap, fApp_ap, fIfS_ap, fiSeq_ap, fiTup_ap, fiEnum_ap, fYes_ap, fCall_ap, fCall0_ap, fChain_ap, fBits_ap, fAddC_ap, fiAny_ap, Res.bind_ok, asB_ok, okO_some, bodyD, asB, iterOf, withLock_none, noErr_ok, wipeE, List.map_cons, List.map_nil, List.length_cons, List.length_nil, List.cons_append, List.nil_append, List.getElem?_cons_zero, List.getElem?_cons_succ, List.set_cons_zero, List.set_cons_succ, if_true, Bool.false_eq_true, if_false, Nat.reduceAdd, Nat.reduceSub, Nat.zero_add, List.replicate, tyD, atI_0, atI_1, lenD_lst, lenD_tup, ixD_tup, ixD_lst, eqD_int, eqD_str, neD_int, neD_str, leD_int, ltD_int, gtD_int, geD_int, addD_int, subD_int, intD_int, gx0, gx1, gx2, gs0, gs2, capN, Nat.zero_le, Nat.reduceLeDiff, Nat.reduceEqDiff, Nat.reduceLT, Bool.not_true, Bool.not_false, Bool.true_and, Bool.false_and, e2, e3, ← hJ, e4]
  have s3 : (fAsg (fCB reprD (fCons (fLst (fCons (fVar 3) (fCons (fVar 4) fNil))) fNil)) (fgName 5)) [some (.kls (ns.map .int)), some (.cel 0), some (.int K), some r, some dr, none, none, none, none, none, none, none] [gen a b c] = .ok (.nx, e6 none) [gen a b c] := by
    simp only [fC_ap, fVar_ap, fOp_ap, fB_ap, fAnd_ap, fOr_ap, fNot_ap, fAndV_ap, fOrV_ap, fNotV_ap, fIf_ap, fNil_ap, fCons_ap, fTup_ap, fLst_ap, fLstC_ap, fNoPart_ap, fPart_ap, fSl_ap, fNeg_ap, fCB_ap, fIsi_ap, fIsi2_ap, fNext_ap, fSeq_ap, fRet_ap, fRetF_ap, fgName_ap, fgNil_ap, fgCons_ap, fgTup_ap, fgSub_ap, fAsg_ap, fPar_ap, fPar3_ap, fDrop_ap, fApp_ap, fIfS_ap, fiSeq_ap, fiTup_ap, fiEnum_ap, fYes_ap, fCall_ap, fCall0_ap, fChain_ap, fBits_ap, fAddC_ap, fiAny_ap, Res.bind_ok, asB_ok, okO_some, bodyD, asB, iterOf, withLock_none, noErr_ok, wipeE, List.map_cons, List.map_nil, List.length_cons, List.length_nil, List.cons_append, List.nil_append, List.getElem?_cons_zero, List.getElem?_cons_succ, List.set_cons_zero, List.set_cons_succ, if_true, Bool.false_eq_true, if_false, Nat.reduceAdd, Nat.reduceSub, Nat.zero_add, List.replicate, tyD, atI_0, atI_1, lenD_lst, lenD_tup, ixD_tup, ixD_lst, eqD_int, eqD_str, neD_int, neD_str, leD_int, ltD_int, gtD_int, geD_int, addD_int, subD_int, intD_int, gx0, gx1, gx2, gs0, gs2, capN, Nat.zero_le, Nat.reduceLeDiff, Nat.reduceEqDiff, Nat.reduceLT, Bool.not_true, Bool.not_false, Bool.true_and, Bool.false_and, e5]
    rfl
  have it1 : ∀ v : Bool, isnotD (.bl v) (.bl true) [gen a b c] = some (.bl (!v)) := fun v => by cases v <;> rfl
  have it0 : ∀ v : Bool, isnotD (.bl v) (.bl false) [gen a b c] = some (.bl v) := fun v => by cases v <;> rfl
  have s4 : (fIfS (fOr (fB (fOp isnotD (fCall 1 g_is_rule (fCons (fVar 3) fNil)) (fC (.bl true)))) (fOr (fB (fOp isnotD (fCall 1 g_is_rule (fCons (fVar 4) fNil)) (fC (.bl true)))) (fOr (fB (fOp isnotD (fCall 1 g_is_rule (fCons (fTup (fCons (fC (.str "rally")) fNil)) fNil)) (fC (.bl true)))) (fB (fOp isnotD (fCall 1 g_is_rule (fCons (fTup (fCons (fC (.str "hand")) fNil)) fNil)) (fC (.bl true))))))) (fRet (fC (.bl false))) fNext) (e6 none) [gen a b c] = .ok (.nx, e6 none) [gen a b c] := by
    simp only [e6, fC_ap, fVar_ap, fOp_ap, fB_ap, fAnd_ap, fOr_ap, fNot_ap, fAndV_ap, fOrV_ap, fNotV_ap, fIf_ap, fNil_ap, fCons_ap, fTup_ap, fLst_ap, fLstC_ap, fNoPart_ap, fPart_ap, fSl_ap, fNeg_ap, fCB_ap, fIsi_ap, fIsi2_ap, fNext_ap, fSeq_ap, fRet_ap, fRetF_ap, fgName_ap, fgNil_ap, fgCons_ap, fgTup_ap, fgSub_ap, fAsg_ap, fPar_ap, fPar3_ap, fDrop_ap, fApp_ap, fIfS_ap, fiSeq_ap, fiTup_ap, fiEnum_ap, fYes_ap, fCall_ap, fCall0_ap, fChain_ap, fBits_ap, fAddC_ap, fiAny_ap, Res.bind_ok, asB_ok, okO_some, bodyD, asB, iterOf, withLock_none, noErr_ok, wipeE, List.map_cons, List.map_nil, List.length_cons, List.length_nil, List.cons_append, List.nil_append, List.getElem?_cons_zero, List.getElem?_cons_succ, List.set_cons_zero, List.set_cons_succ, if_true, Bool.false_eq_true, if_false, Nat.reduceAdd, Nat.reduceSub, Nat.zero_add, List.replicate, tyD, atI_0, atI_1, lenD_lst, lenD_tup, ixD_tup, ixD_lst, eqD_int, eqD_str, neD_int, neD_str, leD_int, ltD_int, gtD_int, geD_int, addD_int, subD_int, intD_int, gx0, gx1, gx2, gs0, gs2, capN, Nat.zero_le, Nat.reduceLeDiff, Nat.reduceEqDiff, Nat.reduceLT, Bool.not_true, Bool.not_false, Bool.true_and, Bool.false_and, f1, f2, f3, f4, it1]
  have l5 := fLc_pure (vs := [6]) (fi := fiAny (fCall 1 g__law_wrong_races (fCons (fVar 3) fNil))) (g := fgName 6) (c := fB (fOp isnotD (fCall 1 g_is_rule (fCons (fVar 6) fNil)) (fC (.bl false)))) (el := fVar 6) (ρ := e6 none) (S := [gen a b c]) (xs := ws)
    (fun m => isRuleN 4 m) id (by simp only [e6, fC_ap, fVar_ap, fOp_ap, fB_ap, fAnd_ap, fOr_ap, fNot_ap, fAndV_ap, fOrV_ap, fNotV_ap, fIf_ap, fNil_ap, fCons_ap, fTup_ap, fLst_ap, fLstC_ap, fNoPart_ap, fPart_ap, fSl_ap, fNeg_ap, fCB_ap, fIsi_ap, fIsi2_ap, fNext_ap, fSeq_ap, fRet_ap, fRetF_ap, fgName_ap, fgNil_ap, fgCons_ap, fgTup_ap, fgSub_ap, fAsg_ap, fPar_ap, fPar3_ap, fDrop_ap, fApp_ap, fIfS_ap, fiSeq_ap, fiTup_ap, fiEnum_ap, fYes_ap, fCall_ap, fCall0_ap, fChain_ap, fBits_ap, fAddC_ap, fiAny_ap, Res.bind_ok, asB_ok, okO_some, bodyD, asB, iterOf, withLock_none, noErr_ok, wipeE, List.map_cons, List.map_nil, List.length_cons, List.length_nil, List.cons_append, List.nil_append, List.getElem?_cons_zero, List.getElem?_cons_succ, List.set_cons_zero, List.set_cons_succ, if_true, Bool.false_eq_true, if_false, Nat.reduceAdd, Nat.reduceSub, Nat.zero_add, List.replicate, tyD, atI_0, atI_1, lenD_lst, lenD_tup, ixD_tup, ixD_lst, eqD_int, eqD_str, neD_int, neD_str, leD_int, ltD_int, gtD_int, geD_int, addD_int, subD_int, intD_int, gx0, gx1, gx2, gs0, gs2, capN, Nat.zero_le, Nat.reduceLeDiff, Nat.reduceEqDiff, Nat.reduceLT, Bool.not_true, Bool.not_false, Bool.true_and, Bool.false_and, g1]) (capN_of (by omega)) (fun m hm => by
      refine ⟨e6 (some m), rfl, ?_, fun _ => rfl⟩
      have q := is_rule_ok (free1 a b c) (fits_mem g2 hm) (by omega)
      simp only [e6, fC_ap, fVar_ap, fOp_ap, fB_ap, fAnd_ap, fOr_ap, fNot_ap, fAndV_ap, fOrV_ap, fNotV_ap, fIf_ap, fNil_ap, fCons_ap, fTup_ap, fLst_ap, fLstC_ap, fNoPart_ap, fPart_ap, fSl_ap, fNeg_ap, fCB_ap, fIsi_ap, fIsi2_ap, fNext_ap, fSeq_ap, fRet_ap, fRetF_ap, fgName_ap, fgNil_ap, fgCons_ap, fgTup_ap, fgSub_ap, fAsg_ap, fPar_ap, fPar3_ap, fDrop_ap, fApp_ap, fIfS_ap, fiSeq_ap, fiTup_ap, fiEnum_ap, fYes_ap, fCall_ap, fCall0_ap, fChain_ap, fBits_ap, fAddC_ap, fiAny_ap, Res.bind_ok, asB_ok, okO_some, bodyD, asB, iterOf, withLock_none, noErr_ok, wipeE, List.map_cons, List.map_nil, List.length_cons, List.length_nil, List.cons_append, List.nil_append, List.getElem?_cons_zero, List.getElem?_cons_succ, List.set_cons_zero, List.set_cons_succ, if_true, Bool.false_eq_true, if_false, Nat.reduceAdd, Nat.reduceSub, Nat.zero_add, List.replicate, tyD, atI_0, atI_1, lenD_lst, lenD_tup, ixD_tup, ixD_lst, eqD_int, eqD_str, neD_int, neD_str, leD_int, ltD_int, gtD_int, geD_int, addD_int, subD_int, intD_int, gx0, gx1, gx2, gs0, gs2, capN, Nat.zero_le, Nat.reduceLeDiff, Nat.reduceEqDiff, Nat.reduceLT, Bool.not_true, Bool.not_false, Bool.true_and, Bool.false_and, q, it0])
  rw [List.map_id] at l5
  have l6 : ws.filter (fun m => isRuleN 4 m) = [] := by
    rw [List.filter_eq_nil_iff]
    intro m hm
    have := List.all_eq_true.mp hb m hm
    simpa using this
  rw [l6] at l5
  have ne : neD (.lst []) (.lst []) [gen a b c] = some (.bl false) := by rfl
  have s5 : (fIfS (fB (fOp neD (fLc [6] (fiAny (fCall 1 g__law_wrong_races (fCons (fVar 3) fNil))) (fgName 6) (fB (fOp isnotD (fCall 1 g_is_rule (fCons (fVar 6) fNil)) (fC (.bl false)))) (fVar 6)) (fLst fNil))) (fRet (fC (.bl false))) fNext) (e6 none) [gen a b c] = .ok (.nx, e6 none) [gen a b c] := by
    simp only [fC_ap, fVar_ap, fOp_ap, fB_ap, fAnd_ap, fOr_ap, fNot_ap, fAndV_ap, fOrV_ap, fNotV_ap, fIf_ap, fNil_ap, fCons_ap, fTup_ap, fLst_ap, fLstC_ap, fNoPart_ap, fPart_ap, fSl_ap, fNeg_ap, fCB_ap, fIsi_ap, fIsi2_ap, fNext_ap, fSeq_ap, fRet_ap, fRetF_ap, fgName_ap, fgNil_ap, fgCons_ap, fgTup_ap, fgSub_ap, fAsg_ap, fPar_ap, fPar3_ap, fDrop_ap, fApp_ap, fIfS_ap, fiSeq_ap, fiTup_ap, fiEnum_ap, fYes_ap, fCall_ap, fCall0_ap, fChain_ap, fBits_ap, fAddC_ap, fiAny_ap, Res.bind_ok, asB_ok, okO_some, bodyD, asB, iterOf, withLock_none, noErr_ok, wipeE, List.map_cons, List.map_nil, List.length_cons, List.length_nil, List.cons_append, List.nil_append, List.getElem?_cons_zero, List.getElem?_cons_succ, List.set_cons_zero, List.set_cons_succ, if_true, Bool.false_eq_true, if_false, Nat.reduceAdd, Nat.reduceSub, Nat.zero_add, List.replicate, tyD, atI_0, atI_1, lenD_lst, lenD_tup, ixD_tup, ixD_lst, eqD_int, eqD_str, neD_int, neD_str, leD_int, ltD_int, gtD_int, geD_int, addD_int, subD_int, intD_int, gx0, gx1, gx2, gs0, gs2, capN, Nat.zero_le, Nat.reduceLeDiff, Nat.reduceEqDiff, Nat.reduceLT, Bool.not_true, Bool.not_false, Bool.true_and, Bool.false_and, l5, ne]
  have s6 : (fAsg (fVar 3) (fgName 7)) (e6 none) [gen a b c] = .ok (.nx, env7 (.kls (ns.map .int)) K r dr kept r none) [gen a b c] := by
    simp only [e6, fC_ap, fVar_ap, fOp_ap, fB_ap, fAnd_ap, fOr_ap, fNot_ap, fAndV_ap, fOrV_ap, fNotV_ap, fIf_ap, fNil_ap, fCons_ap, fTup_ap, fLst_ap, fLstC_ap, fNoPart_ap, fPart_ap, fSl_ap, fNeg_ap, fCB_ap, fIsi_ap, fIsi2_ap, fNext_ap, fSeq_ap, fRet_ap, fRetF_ap, fgName_ap, fgNil_ap, fgCons_ap, fgTup_ap, fgSub_ap, fAsg_ap, fPar_ap, fPar3_ap, fDrop_ap, fApp_ap, fIfS_ap, fiSeq_ap, fiTup_ap, fiEnum_ap, fYes_ap, fCall_ap, fCall0_ap, fChain_ap, fBits_ap, fAddC_ap, fiAny_ap, Res.bind_ok, asB_ok, okO_some, bodyD, asB, iterOf, withLock_none, noErr_ok, wipeE, List.map_cons, List.map_nil, List.length_cons, List.length_nil, List.cons_append, List.nil_append, List.getElem?_cons_zero, List.getElem?_cons_succ, List.set_cons_zero, List.set_cons_succ, if_true, Bool.false_eq_true, if_false, Nat.reduceAdd, Nat.reduceSub, Nat.zero_add, List.replicate, tyD, atI_0, atI_1, lenD_lst, lenD_tup, ixD_tup, ixD_lst, eqD_int, eqD_str, neD_int, neD_str, leD_int, ltD_int, gtD_int, geD_int, addD_int, subD_int, intD_int, gx0, gx1, gx2, gs0, gs2, capN, Nat.zero_le, Nat.reduceLeDiff, Nat.reduceEqDiff, Nat.reduceLT, Bool.not_true, Bool.not_false, Bool.true_and, Bool.false_and]
    rfl
  obtain ⟨deeper, t, e7⟩ := deep_loop (a := a) (b := b) (c := c) (scr := .kls (ns.map .int)) (r := r) (dr := dr) (kept := kept) (K := K) 4 0 (deeper := r) (t := none) (by omega) tp.1
  have er : ((List.range 4).map fun i => D.int ((0 + i : Nat) : Int)) = rangeD 0 4 := by rfl
  rw [er] at e7
  have it := fiRng1_nat (f := fCons (fC (.int 4)) fNil) (ρ := env7 (.kls (ns.map .int)) K r dr kept r none) (S := [gen a b c]) (S1 := [gen a b c]) (j := 4) rfl (by decide)
  have s7 := fFor_st (g := fgName 8) (f := deepBody) it e7
  have s8 := closed_8 a b c (.kls (ns.map .int)) K r dr kept deeper t
  have s9 := closed_9 a b c (.kls (ns.map .int)) K r dr kept deeper t (fRet (fAndV (fCall0 g__law_plain_right) (fOp eqD (fCB reprD (fCons (fLst (fCons (fVar 3) (fCons (fVar 4) fNil))) fNil)) (fVar 5))))
  have pr := plain_right a b c
  have s12 : ((fRet (fAndV (fCall0 g__law_plain_right) (fOp eqD (fCB reprD (fCons (fLst (fCons (fVar 3) (fCons (fVar 4) fNil))) fNil)) (fVar 5)))) : FS) (env11 (.kls (ns.map .int)) K r dr kept deeper t) [gen a b c] = .ok (.rt (.bl true), env11 (.kls (ns.map .int)) K r dr kept deeper t) [gen a b c] := by
    simp only [env11, fC_ap, fVar_ap, fOp_ap, fB_ap, fAnd_ap, fOr_ap, fNot_ap, fAndV_ap, fOrV_ap, fNotV_ap, fIf_ap, fNil_ap, fCons_ap, fTup_ap, fLst_ap, fLstC_ap, fNoPart_ap, fPart_ap, fSl_ap, fNeg_ap, fCB_ap, fIsi_ap, fIsi2_ap, fNext_ap, fSeq_ap, fRet_ap, fRetF_ap, fgName_ap, fgNil_ap, fgCons_ap, fgTup_ap, fgSub_ap, fAsg_ap, fPar_ap, fPar3_ap, fDrop_ap, fApp_ap, fIfS_ap, fiSeq_ap, fiTup_ap, fiEnum_ap, fYes_ap, fCall_ap, fCall0_ap, fChain_ap, fBits_ap, fAddC_ap, fiAny_ap, Res.bind_ok, asB_ok, okO_some, bodyD, asB, iterOf, withLock_none, noErr_ok, wipeE, List.map_cons, List.map_nil, List.length_cons, List.length_nil, List.cons_append, List.nil_append, List.getElem?_cons_zero, List.getElem?_cons_succ, List.set_cons_zero, List.set_cons_succ, if_true, Bool.false_eq_true, if_false, Nat.reduceAdd, Nat.reduceSub, Nat.zero_add, List.replicate, tyD, atI_0, atI_1, lenD_lst, lenD_tup, ixD_tup, ixD_lst, eqD_int, eqD_str, neD_int, neD_str, leD_int, ltD_int, gtD_int, geD_int, addD_int, subD_int, intD_int, gx0, gx1, gx2, gs0, gs2, capN, Nat.zero_le, Nat.reduceLeDiff, Nat.reduceEqDiff, Nat.reduceLT, Bool.not_true, Bool.not_false, Bool.true_and, Bool.false_and, pr, e5, decide_true]
  refine ⟨[gen a b c], ?_⟩
  refine bodyD_rt (ρ1 := env11 (.kls (ns.map .int)) K r dr kept deeper t) ?_
  show fSeq (fAsg (fCall 2 g__law_generator (fCons (fVar 0) (fCons (fC (.int 0)) fNil))) (fgName 1)) (fSeq (fAsg (fOp addD (fC (.int 1)) (fCall 2 g__law_random (fCons (fVar 1) (fCons (fC (.int 4)) fNil)))) (fgName 2)) (fSeq (fPar 3 4 (fCons (fCall 2 g__law_nested (fCons (fVar 1) (fCons (fVar 2) fNil))) (fCons (fCall 3 (g__law_rule 16) (fCons (fVar 1) (fCons (fOp addD (fC (.int 1)) (fCall 2 g__law_random (fCons (fVar 1) (fCons (fC (.int 4)) fNil)))) (fCons (fC (.int 30)) fNil)))) fNil))) (fSeq (fAsg (fCB reprD (fCons (fLst (fCons (fVar 3) (fCons (fVar 4) fNil))) fNil)) (fgName 5)) (fSeq (fIfS (fOr (fB (fOp isnotD (fCall 1 g_is_rule (fCons (fVar 3) fNil)) (fC (.bl true)))) (fOr (fB (fOp isnotD (fCall 1 g_is_rule (fCons (fVar 4) fNil)) (fC (.bl true)))) (fOr (fB (fOp isnotD (fCall 1 g_is_rule (fCons (fTup (fCons (fC (.str "rally")) fNil)) fNil)) (fC (.bl true)))) (fB (fOp isnotD (fCall 1 g_is_rule (fCons (fTup (fCons (fC (.str "hand")) fNil)) fNil)) (fC (.bl true))))))) (fRet (fC (.bl false))) fNext) (fSeq (fIfS (fB (fOp neD (fLc [6] (fiAny (fCall 1 g__law_wrong_races (fCons (fVar 3) fNil))) (fgName 6) (fB (fOp isnotD (fCall 1 g_is_rule (fCons (fVar 6) fNil)) (fC (.bl false)))) (fVar 6)) (fLst fNil))) (fRet (fC (.bl false))) fNext) (fSeq (fAsg (fVar 3) (fgName 7)) (fSeq (fFor (fiRng1 (fCons (fC (.int 4)) fNil)) (fgName 8) deepBody) (fSeq (fIfS (fB (fOp neD (fLc [6] (fiAny (fLst (fCons (fC .non) (fCons (fC (.int 7)) (fCons (fC (.str "rally")) (fCons (fLst (fCons (fC (.str "rally")) fNil)) (fCons (fTup (fCons (fC (.str "rally")) (fCons (fC (.int 1)) fNil))) (fCons (fTup (fCons (fC (.str "hands")) fNil)) (fCons (fTup fNil) (fCons (fTup (fCons (fC .non) fNil)) (fCons (fC (.dct [])) fNil))))))))))) (fgName 6) (fB (fOp isnotD (fCall 1 g_is_rule (fCons (fVar 6) fNil)) (fC (.bl false)))) (fVar 6)) (fLst fNil))) (fRet (fC (.bl false))) fNext) (fSeq (fAsg (fTup (fCons (fC (.str "race")) (fCons (fC (.int 2)) (fCons (fC (.int 1)) (fCons (fC .non) (fCons (fTup (fCons (fC (.str "on")) fNil)) (fCons (fTup (fCons (fC (.str "rally")) fNil)) (fCons (fLst (fCons (fTup (fCons (fTup (fCons (fC (.int 1)) (fCons (fC (.int 1)) fNil))) (fCons (fTup (fCons (fC (.str "race")) (fCons (fC (.int 1)) (fCons (fC (.int 1)) (fCons (fC .non) (fCons (fTup (fCons (fC (.str "on")) fNil)) (fCons (fTup (fCons (fC (.str "race")) (fCons (fC (.int 1)) (fCons (fC (.int 1)) (fCons (fC .non) (fCons (fTup (fCons (fC (.str "on")) fNil)) (fCons (fTup (fCons (fC (.str "race")) (fCons (fC (.int 1)) (fCons (fC (.int 1)) (fCons (fC .non) (fCons (fTup (fCons (fC (.str "on")) fNil)) (fCons (fTup (fCons (fC (.str "rally")) fNil)) (fCons (fLst fNil) fNil)))))))) (fCons (fLst fNil) fNil)))))))) (fCons (fLst fNil) fNil)))))))) fNil))) fNil)) fNil)))))))) (fgName 9)) (fSeq (fAsg (fTup (fCons (fC (.str "race")) (fCons (fC (.int 30)) (fCons (fC (.int 3)) (fCons (fC (.int 40)) (fCons (fTup (fCons (fC (.str "row")) (fCons (fOp mulD (fLst (fCons (fC (.int 0)) fNil)) (fC (.int 8))) fNil))) (fCons (fTup (fCons (fC (.str "rally")) fNil)) (fCons (fLc [11] (fiRng1 (fCons (fC (.int 8)) fNil)) (fgName 11) fYes (fTup (fCons (fTup (fCons (fVar 11) (fCons (fC (.int 40)) fNil))) (fCons (fTup (fCons (fC (.str "hand")) fNil)) fNil)))) fNil)))))))) (fgName 10)) (fSeq (fIfS (fNot (fB (fCall 2 (g__law_same 16) (fCons (fLst (fCons (fCall 1 g_is_rule (fCons (fVar 9) fNil)) (fCons (fCall 1 g_is_rule (fCons (fTup (fCons (fC (.str "race")) (fCons (fC (.int 1)) (fCons (fC (.int 1)) (fCons (fC .non) (fCons (fTup (fCons (fC (.str "on")) fNil)) (fCons (fVar 9) (fCons (fLst fNil) fNil)))))))) fNil)) (fCons (fCall 1 g_is_rule (fCons (fVar 10) fNil)) fNil)))) (fCons (fLst (fCons (fC (.bl true)) (fCons (fC (.bl false)) (fCons (fC (.bl true)) fNil)))) fNil))))) (fRet (fC (.bl false))) fNext) (fRet (fAndV (fCall0 g__law_plain_right) (fOp eqD (fCB reprD (fCons (fLst (fCons (fVar 3) (fCons (fVar 4) fNil))) fNil)) (fVar 5))))))))))))))) [some (.kls (ns.map .int)), none, none, none, none, none, none, none, none, none, none, none] [] = _
  rw [fSeq_nx s0, fSeq_nx s1, fSeq_nx s2, fSeq_nx s3, fSeq_nx s4, fSeq_nx s5, fSeq_nx s6, fSeq_nx s7, fSeq_nx s8, s9, s12]
end K1

set_option maxHeartbeats 4000000
namespace K1
open PySem PySem.Spec PyProof.Rows L2 DL
def topS (i : Nat) : Stmt := PySem.Challenge.pw_anyserve_k01_rules_and_other_values.main.body.getD i (.Pass ⟨0, 0, 0, 0⟩)
structure Zc (K : PySem.W.Frag) (mg : Str → Option Value) : Prop where
  b_bool : mg "bool" = none
  b_int : mg "int" = none
  b_isinstance : mg "isinstance" = none
  b_len : mg "len" = none
  b_list : mg "list" = none
  b_max : mg "max" = none
  b_range : mg "range" = none
  b_repr : mg "repr" = none
  b_sorted : mg "sorted" = none
  b_str : mg "str" = none
  b_sum : mg "sum" = none
  b_tuple : mg "tuple" = none
  f_gcd : mg "gcd" = some (.builtin "math.gcd")
  c_DEEPEST : GlobC K mg "DEEPEST" c_DEEPEST
  c_ORDERS : GlobC K mg "ORDERS" c_ORDERS
section
variable {P : Program} {w : World} {K : PySem.W.Frag} {mg : Str → Option Value} {base : Heap} {ca : Str → Addr} {k : Nat}
abbrev s_is_whole : Stmt := topS 4
theorem sc_is_whole : FnScope N_is_whole ["value"] (defScope s_is_whole) := ⟨rfl, rfl, rfl, by decide +kernel, rfl, by decide +kernel, by decide +kernel⟩
theorem e_is_whole (z : Zc K mg) (T : Std K mg "is_whole" s_is_whole ["value"]) : Def P w K mg base ca "is_whole" ["value"] (k + 1) (bodyT N_is_whole 1 (b_is_whole)) :=
  def_T T sc_is_whole fun f cdv A outer s H E hr hgu tk hp => by
    refine sss_one ?_
    refine ss_ret ?_
    refine se_and ?_ ?_
    · refine se_isi ?_ (by decide) bb_int z.b_int (by rfl) (by rfl) z.b_isinstance
      exact se_var 0
    · refine se_one ?_
      refine se_not ?_
      refine se_isi ?_ (by decide) bb_bool z.b_bool (by rfl) (by rfl) z.b_isinstance
      exact se_var 0

abbrev s_is_count : Stmt := topS 5
theorem sc_is_count : FnScope N_is_count ["value"] (defScope s_is_count) := ⟨rfl, rfl, rfl, by decide +kernel, rfl, by decide +kernel, by decide +kernel⟩
theorem e_is_count {g_is_whole : GF} (z : Zc K mg) (T : Std K mg "is_count" s_is_count ["value"]) (D_is_whole : Def P w K mg base ca "is_whole" ["value"] k g_is_whole) : Def P w K mg base ca "is_count" ["value"] (k + 1) (bodyT N_is_count 1 (b_is_count g_is_whole)) :=
  def_T T sc_is_count fun f cdv A outer s H E hr hgu tk hp => by
    refine sss_one ?_
    refine ss_ret ?_
    refine se_and ?_ ?_
    · refine se_callN D_is_whole hr hgu tk (by rfl) ?_
      refine sa_cons ?_ ?_
      · exact se_var 0
      · exact sa_nil
    · refine se_one ?_
      refine se_cmp (opd_ge hr.units0) ?_ ?_ (nomark _)
      · exact se_var 0
      · exact se_int

abbrev s_is_between : Stmt := topS 6
theorem sc_is_between : FnScope N_is_between ["value", "low", "high"] (defScope s_is_between) := ⟨rfl, rfl, rfl, by decide +kernel, rfl, by decide +kernel, by decide +kernel⟩
theorem e_is_between {g_is_whole : GF} (z : Zc K mg) (T : Std K mg "is_between" s_is_between ["value", "low", "high"]) (D_is_whole : Def P w K mg base ca "is_whole" ["value"] k g_is_whole) : Def P w K mg base ca "is_between" ["value", "low", "high"] (k + 1) (bodyT N_is_between 3 (b_is_between g_is_whole)) :=
  def_T T sc_is_between fun f cdv A outer s H E hr hgu tk hp => by
    refine sss_one ?_
    refine ss_ret ?_
    refine se_and ?_ ?_
    · refine se_callN D_is_whole hr hgu tk (by rfl) ?_
      refine sa_cons ?_ ?_
      · exact se_var 0
      · exact sa_nil
    · refine se_one ?_
      refine se_chain opd_le opd_le ?_ ?_ ?_
      · exact se_var 1
      · exact se_var 0
      · exact se_var 2

abbrev s_is_side : Stmt := topS 7
theorem sc_is_side : FnScope N_is_side ["value"] (defScope s_is_side) := ⟨rfl, rfl, rfl, by decide +kernel, rfl, by decide +kernel, by decide +kernel⟩
theorem e_is_side {g_is_between : GF} (z : Zc K mg) (T : Std K mg "is_side" s_is_side ["value"]) (D_is_between : Def P w K mg base ca "is_between" ["value", "low", "high"] k g_is_between) : Def P w K mg base ca "is_side" ["value"] (k + 1) (bodyT N_is_side 1 (b_is_side g_is_between)) :=
  def_T T sc_is_side fun f cdv A outer s H E hr hgu tk hp => by
    refine sss_one ?_
    refine ss_ret ?_
    refine se_callN D_is_between hr hgu tk (by rfl) ?_
    refine sa_cons ?_ ?_
    · exact se_var 0
    · refine sa_cons ?_ ?_
      · exact se_int
      · refine sa_cons ?_ ?_
        · exact se_int
        · exact sa_nil

abbrev s_are_rallies : Stmt := topS 8
theorem sc_are_rallies : FnScope N_are_rallies ["value"] (defScope s_are_rallies) := ⟨rfl, rfl, rfl, by decide +kernel, rfl, by decide +kernel, by decide +kernel⟩
theorem e_are_rallies {g_is_side : GF} (z : Zc K mg) (T : Std K mg "are_rallies" s_are_rallies ["value"]) (D_is_side : Def P w K mg base ca "is_side" ["value"] k g_is_side) : Def P w K mg base ca "are_rallies" ["value"] (k + 1) (bodyT N_are_rallies 1 (b_are_rallies g_is_side)) :=
  def_T T sc_are_rallies fun f cdv A outer s H E hr hgu tk hp => by
    refine sss_one ?_
    refine ss_ret ?_
    refine se_and ?_ ?_
    · refine se_isi ?_ (by decide) bb_list z.b_list (by rfl) (by rfl) z.b_isinstance
      exact se_var 0
    · refine se_one ?_
      refine se_cmp (opd_eq hr.units) ?_ ?_ (nomark _)
      · refine se_lc (own := [("side", 1)]) rfl sc_are_rallies.nd ?_ (blkOk_by (by rfl)) (fun _ _ _ _ _ => ?_) (fun _ _ _ _ _ => ?_) (fun _ _ _ _ _ => ?_)
        · refine si_any ?_
          exact se_var 0
        · exact sgw_name (by decide) sc_are_rallies.nd (i := 1) rfl (by first | exact .inl rfl | exact .inr rfl)
        · refine sts_one ?_
          refine st_not ?_
          refine st_val ?_
          refine se_callN D_is_side ?_ ?_ tk0 (by rfl) ?_
          · exact hr
          · exact hgu
          · refine sa_cons ?_ ?_
            · exact se_var 1
            · exact sa_nil
        · exact se_var 1
      · refine se_lst ?_
        exact sa_nil

abbrev s_is_fraction : Stmt := topS 9
theorem sc_is_fraction : FnScope N_is_fraction ["value"] (defScope s_is_fraction) := ⟨rfl, rfl, rfl, by decide +kernel, rfl, by decide +kernel, by decide +kernel⟩
theorem e_is_fraction {g_is_whole : GF} (z : Zc K mg) (T : Std K mg "is_fraction" s_is_fraction ["value"]) (D_is_whole : Def P w K mg base ca "is_whole" ["value"] k g_is_whole) : Def P w K mg base ca "is_fraction" ["value"] (k + 1) (bodyT N_is_fraction 1 (b_is_fraction g_is_whole)) :=
  def_T T sc_is_fraction fun f cdv A outer s H E hr hgu tk hp => by
    refine sss_cons ?_ ?_
    · refine ss_if ?_ ?_ ?_
      · refine SW.st ?_
        refine sw_or ?_ ?_
        · refine st_not ?_
          refine st_val ?_
          refine se_isi ?_ (by decide) bb_tuple z.b_tuple (by rfl) (by rfl) z.b_isinstance
          exact se_var 0
        · refine sw_or ?_ ?_
          · refine st_cmp (opd_ne hr.units) ?_ ?_ (nomark _)
            · refine se_callB cd_len (by rfl) z.b_len bb_len ?_
              refine sa_cons ?_ ?_
              · exact se_var 0
              · exact sa_nil
            · exact se_int
          · refine sw_or ?_ ?_
            · refine st_not ?_
              refine st_val ?_
              refine se_callN D_is_whole hr hgu tk (by rfl) ?_
              refine sa_cons ?_ ?_
              · refine se_ix ?_ ?_ (fun _ _ => rfl)
                · exact se_var 0
                · exact se_int
              · exact sa_nil
            · refine sw_or1 ?_
              refine st_not ?_
              refine st_val ?_
              refine se_callN D_is_whole hr hgu tk (by rfl) ?_
              refine sa_cons ?_ ?_
              · refine se_ix ?_ ?_ (fun _ _ => rfl)
                · exact se_var 0
                · exact se_int
              · exact sa_nil
      · refine sss_one ?_
        refine ss_ret ?_
        exact se_bl
      · exact sss_nil
    · refine sss_one ?_
      refine ss_ret ?_
      refine se_and ?_ ?_
      · refine se_cmp (opd_ge hr.units0) ?_ ?_ (nomark _)
        · refine se_ix ?_ ?_ (fun _ _ => rfl)
          · exact se_var 0
          · exact se_int
        · exact se_int
      · refine se_one ?_
        refine se_cmp (opd_eq hr.units) ?_ ?_ (nomark _)
        · refine se_callBfun cd_gcd (by rfl) z.f_gcd ?_
          refine sa_cons ?_ ?_
          · refine se_ix ?_ ?_ (fun _ _ => rfl)
            · exact se_var 0
            · exact se_int
          · refine sa_cons ?_ ?_
            · refine se_ix ?_ ?_ (fun _ _ => rfl)
              · exact se_var 0
              · exact se_int
            · exact sa_nil
        · exact se_int

abbrev s_is_chance : Stmt := topS 10
theorem sc_is_chance : FnScope N_is_chance ["value"] (defScope s_is_chance) := ⟨rfl, rfl, rfl, by decide +kernel, rfl, by decide +kernel, by decide +kernel⟩
theorem e_is_chance {g_is_fraction : GF} (z : Zc K mg) (T : Std K mg "is_chance" s_is_chance ["value"]) (D_is_fraction : Def P w K mg base ca "is_fraction" ["value"] k g_is_fraction) : Def P w K mg base ca "is_chance" ["value"] (k + 1) (bodyT N_is_chance 1 (b_is_chance g_is_fraction)) :=
  def_T T sc_is_chance fun f cdv A outer s H E hr hgu tk hp => by
    refine sss_one ?_
    refine ss_ret ?_
    refine se_and ?_ ?_
    · refine se_callN D_is_fraction hr hgu tk (by rfl) ?_
      refine sa_cons ?_ ?_
      · exact se_var 0
      · exact sa_nil
    · refine se_one ?_
      refine se_chain opd_lt opd_lt ?_ ?_ ?_
      · exact se_int
      · refine se_ix ?_ ?_ (fun _ _ => rfl)
        · exact se_var 0
        · exact se_int
      · refine se_ix ?_ ?_ (fun _ _ => rfl)
        · exact se_var 0
        · exact se_int

abbrev s_is_word : Stmt := topS 11
theorem sc_is_word : FnScope N_is_word ["value", "word"] (defScope s_is_word) := ⟨rfl, rfl, rfl, by decide +kernel, rfl, by decide +kernel, by decide +kernel⟩
theorem e_is_word (z : Zc K mg) (T : Std K mg "is_word" s_is_word ["value", "word"]) : Def P w K mg base ca "is_word" ["value", "word"] (k + 1) (bodyT N_is_word 2 (b_is_word)) :=
  def_T T sc_is_word fun f cdv A outer s H E hr hgu tk hp => by
    refine sss_one ?_
    refine ss_ret ?_
    refine se_and ?_ ?_
    · refine se_isi ?_ (by decide) bb_tuple z.b_tuple (by rfl) (by rfl) z.b_isinstance
      exact se_var 0
    · refine se_and ?_ ?_
      · refine se_cmp (opd_eq hr.units) ?_ ?_ (nomark _)
        · refine se_callB cd_len (by rfl) z.b_len bb_len ?_
          refine sa_cons ?_ ?_
          · exact se_var 0
          · exact sa_nil
        · exact se_int
      · refine se_and ?_ ?_
        · refine se_isi ?_ (by decide) bb_str z.b_str (by rfl) (by rfl) z.b_isinstance
          refine se_ix ?_ ?_ (fun _ _ => rfl)
          · exact se_var 0
          · exact se_int
        · refine se_one ?_
          refine se_cmp (opd_eq hr.units) ?_ ?_ (nomark _)
          · refine se_ix ?_ ?_ (fun _ _ => rfl)
            · exact se_var 0
            · exact se_int
          · exact se_var 1

abbrev s_is_order : Stmt := topS 12
theorem sc_is_order : FnScope N_is_order ["value"] (defScope s_is_order) := ⟨rfl, rfl, rfl, by decide +kernel, rfl, by decide +kernel, by decide +kernel⟩
theorem e_is_order {g_is_word g_is_side : GF} (z : Zc K mg) (T : Std K mg "is_order" s_is_order ["value"]) (D_is_word : Def P w K mg base ca "is_word" ["value", "word"] k g_is_word) (D_is_side : Def P w K mg base ca "is_side" ["value"] k g_is_side) : Def P w K mg base ca "is_order" ["value"] (k + 1) (bodyT N_is_order 1 (b_is_order g_is_word g_is_side)) :=
  def_T T sc_is_order fun f cdv A outer s H E hr hgu tk hp => by
    refine sss_cons ?_ ?_
    · refine ss_if ?_ ?_ ?_
      · refine st_cmp (opd_ne hr.units) ?_ ?_ (nomark _)
        · refine se_lc (own := [("word", 1)]) rfl sc_is_order.nd ?_ (blkOk_by (by rfl)) (fun _ _ _ _ _ => ?_) (fun _ _ _ _ _ => ?_) (fun _ _ _ _ _ => ?_)
          · refine si_any ?_
            exact se_gc (by rfl) z.c_ORDERS
          · exact sgw_name (by decide) sc_is_order.nd (i := 1) rfl (by first | exact .inl rfl | exact .inr rfl)
          · refine sts_one ?_
            refine st_val ?_
            refine se_callN D_is_word ?_ ?_ tk0 (by rfl) ?_
            · exact hr
            · exact hgu
            · refine sa_cons ?_ ?_
              · exact se_var 0
              · refine sa_cons ?_ ?_
                · exact se_var 1
                · exact sa_nil
          · exact se_var 1
        · refine se_lst ?_
          exact sa_nil
      · refine sss_one ?_
        refine ss_ret ?_
        exact se_bl
      · exact sss_nil
    · refine sss_cons ?_ ?_
      · refine ss_if ?_ ?_ ?_
        · refine SW.st ?_
          refine sw_or ?_ ?_
          · refine st_not ?_
            refine st_val ?_
            refine se_isi ?_ (by decide) bb_tuple z.b_tuple (by rfl) (by rfl) z.b_isinstance
            exact se_var 0
          · refine sw_or ?_ ?_
            · refine st_cmp (opd_ne hr.units) ?_ ?_ (nomark _)
              · refine se_callB cd_len (by rfl) z.b_len bb_len ?_
                refine sa_cons ?_ ?_
                · exact se_var 0
                · exact sa_nil
              · exact se_int
            · refine sw_or ?_ ?_
              · refine st_not ?_
                refine st_val ?_
                refine se_isi ?_ (by decide) bb_str z.b_str (by rfl) (by rfl) z.b_isinstance
                refine se_ix ?_ ?_ (fun _ _ => rfl)
                · exact se_var 0
                · exact se_int
              · refine sw_or1 ?_
                refine st_cmp (opd_ne hr.units) ?_ ?_ (nomark _)
                · refine se_ix ?_ ?_ (fun _ _ => rfl)
                  · exact se_var 0
                  · exact se_int
                · exact se_str
        · refine sss_one ?_
          refine ss_ret ?_
          exact se_bl
        · exact sss_nil
      · refine sss_cons ?_ ?_
        · refine ss_if ?_ ?_ ?_
          · refine SW.st ?_
            refine sw_or ?_ ?_
            · refine st_not ?_
              refine st_val ?_
              refine se_isi ?_ (by decide) bb_list z.b_list (by rfl) (by rfl) z.b_isinstance
              refine se_ix ?_ ?_ (fun _ _ => rfl)
              · exact se_var 0
              · exact se_int
            · refine sw_or1 ?_
              refine st_not ?_
              refine st_chain opd_le opd_le ?_ ?_ ?_
              · exact se_int
              · refine se_callB cd_len (by rfl) z.b_len bb_len ?_
                refine sa_cons ?_ ?_
                · refine se_ix ?_ ?_ (fun _ _ => rfl)
                  · exact se_var 0
                  · exact se_int
                · exact sa_nil
              · exact se_int
          · refine sss_one ?_
            refine ss_ret ?_
            exact se_bl
          · exact sss_nil
        · refine sss_one ?_
          refine ss_ret ?_
          refine se_cmp (opd_eq hr.units) ?_ ?_ (nomark _)
          · refine se_lc (own := [("mark", 2)]) rfl sc_is_order.nd ?_ (blkOk_by (by rfl)) (fun _ _ _ _ _ => ?_) (fun _ _ _ _ _ => ?_) (fun _ _ _ _ _ => ?_)
            · refine si_any ?_
              refine se_ix ?_ ?_ (fun _ _ => rfl)
              · exact se_var 0
              · exact se_int
            · exact sgw_name (by decide) sc_is_order.nd (i := 2) rfl (by first | exact .inl rfl | exact .inr rfl)
            · refine sts_one ?_
              refine st_not ?_
              refine st_val ?_
              refine se_callN D_is_side ?_ ?_ tk0 (by rfl) ?_
              · exact hr
              · exact hgu
              · refine sa_cons ?_ ?_
                · exact se_var 2
                · exact sa_nil
            · exact se_var 2
          · refine se_lst ?_
            exact sa_nil

abbrev s_are_numbers_of_race : Stmt := topS 13
theorem sc_are_numbers_of_race : FnScope N_are_numbers_of_race ["need", "lead", "cap"] (defScope s_are_numbers_of_race) := ⟨rfl, rfl, rfl, by decide +kernel, rfl, by decide +kernel, by decide +kernel⟩
theorem e_are_numbers_of_race {g_is_between : GF} (z : Zc K mg) (T : Std K mg "are_numbers_of_race" s_are_numbers_of_race ["need", "lead", "cap"]) (D_is_between : Def P w K mg base ca "is_between" ["value", "low", "high"] k g_is_between) : Def P w K mg base ca "are_numbers_of_race" ["need", "lead", "cap"] (k + 1) (bodyT N_are_numbers_of_race 3 (b_are_numbers_of_race g_is_between)) :=
  def_T T sc_are_numbers_of_race fun f cdv A outer s H E hr hgu tk hp => by
    refine sss_cons ?_ ?_
    · refine ss_if ?_ ?_ ?_
      · refine SW.st ?_
        refine sw_or ?_ ?_
        · refine st_not ?_
          refine st_val ?_
          refine se_callN D_is_between hr hgu tk (by rfl) ?_
          refine sa_cons ?_ ?_
          · exact se_var 0
          · refine sa_cons ?_ ?_
            · exact se_int
            · refine sa_cons ?_ ?_
              · exact se_int
              · exact sa_nil
        · refine sw_or1 ?_
          refine st_not ?_
          refine st_val ?_
          refine se_callN D_is_between hr hgu tk (by rfl) ?_
          refine sa_cons ?_ ?_
          · exact se_var 1
          · refine sa_cons ?_ ?_
            · exact se_int
            · refine sa_cons ?_ ?_
              · exact se_int
              · exact sa_nil
      · refine sss_one ?_
        refine ss_ret ?_
        exact se_bl
      · exact sss_nil
    · refine sss_one ?_
      refine ss_ret ?_
      refine se_or ?_ ?_
      · refine se_cmp opd_is ?_ ?_ (nomark _)
        · exact se_var 2
        · exact se_non
      · refine se_one ?_
        refine se_callN D_is_between hr hgu tk (by rfl) ?_
        refine sa_cons ?_ ?_
        · exact se_var 2
        · refine sa_cons ?_ ?_
          · exact se_var 0
          · refine sa_cons ?_ ?_
            · exact se_int
            · exact sa_nil

abbrev s_is_score : Stmt := topS 14
theorem sc_is_score : FnScope N_is_score ["value"] (defScope s_is_score) := ⟨rfl, rfl, rfl, by decide +kernel, rfl, by decide +kernel, by decide +kernel⟩
theorem e_is_score {g_is_count : GF} (z : Zc K mg) (T : Std K mg "is_score" s_is_score ["value"]) (D_is_count : Def P w K mg base ca "is_count" ["value"] k g_is_count) : Def P w K mg base ca "is_score" ["value"] (k + 1) (bodyT N_is_score 1 (b_is_score g_is_count)) :=
  def_T T sc_is_score fun f cdv A outer s H E hr hgu tk hp => by
    refine sss_one ?_
    refine ss_ret ?_
    refine se_and ?_ ?_
    · refine se_isi ?_ (by decide) bb_tuple z.b_tuple (by rfl) (by rfl) z.b_isinstance
      exact se_var 0
    · refine se_and ?_ ?_
      · refine se_cmp (opd_eq hr.units) ?_ ?_ (nomark _)
        · refine se_callB cd_len (by rfl) z.b_len bb_len ?_
          refine sa_cons ?_ ?_
          · exact se_var 0
          · exact sa_nil
        · exact se_int
      · refine se_and ?_ ?_
        · refine se_callN D_is_count hr hgu tk (by rfl) ?_
          refine sa_cons ?_ ?_
          · refine se_ix ?_ ?_ (fun _ _ => rfl)
            · exact se_var 0
            · exact se_int
          · exact sa_nil
        · refine se_one ?_
          refine se_callN D_is_count hr hgu tk (by rfl) ?_
          refine sa_cons ?_ ?_
          · refine se_ix ?_ ?_ (fun _ _ => rfl)
            · exact se_var 0
            · exact se_int
          · exact sa_nil

abbrev s_is_special : Stmt := topS 15
theorem sc_is_special : FnScope N_is_special ["value", "deep"] (defScope s_is_special) := ⟨rfl, rfl, rfl, by decide +kernel, rfl, by decide +kernel, by decide +kernel⟩
theorem e_is_special {g_is_score g_is_rule_within : GF} (z : Zc K mg) (T : Std K mg "is_special" s_is_special ["value", "deep"]) (D_is_score : Def P w K mg base ca "is_score" ["value"] k g_is_score) (D_is_rule_within : Def P w K mg base ca "is_rule_within" ["value", "deep"] k g_is_rule_within) : Def P w K mg base ca "is_special" ["value", "deep"] (k + 1) (bodyT N_is_special 2 (b_is_special g_is_score g_is_rule_within)) :=
  def_T T sc_is_special fun f cdv A outer s H E hr hgu tk hp => by
    refine sss_cons ?_ ?_
    · refine ss_if ?_ ?_ ?_
      · refine SW.st ?_
        refine sw_or ?_ ?_
        · refine st_not ?_
          refine st_val ?_
          refine se_isi ?_ (by decide) bb_tuple z.b_tuple (by rfl) (by rfl) z.b_isinstance
          exact se_var 0
        · refine sw_or ?_ ?_
          · refine st_cmp (opd_ne hr.units) ?_ ?_ (nomark _)
            · refine se_callB cd_len (by rfl) z.b_len bb_len ?_
              refine sa_cons ?_ ?_
              · exact se_var 0
              · exact sa_nil
            · exact se_int
          · refine sw_or ?_ ?_
            · refine st_not ?_
              refine st_val ?_
              refine se_callN D_is_score hr hgu tk (by rfl) ?_
              refine sa_cons ?_ ?_
              · refine se_ix ?_ ?_ (fun _ _ => rfl)
                · exact se_var 0
                · exact se_int
              · exact sa_nil
            · refine sw_or1 ?_
              refine st_cmp opd_gt ?_ ?_ (nomark _)
              · refine se_callB (cd_maxT rfl (hu1 hr)) (by rfl) z.b_max bb_max ?_
                refine sa_cons ?_ ?_
                · refine se_ix ?_ ?_ (fun _ _ => rfl)
                  · exact se_var 0
                  · exact se_int
                · exact sa_nil
              · exact se_int
      · refine sss_one ?_
        refine ss_ret ?_
        exact se_bl
      · exact sss_nil
    · refine sss_one ?_
      refine ss_ret ?_
      refine se_callN D_is_rule_within hr hgu tk (by rfl) ?_
      refine sa_cons ?_ ?_
      · refine se_ix ?_ ?_ (fun _ _ => rfl)
        · exact se_var 0
        · exact se_int
      · refine sa_cons ?_ ?_
        · exact se_var 1
        · exact sa_nil

abbrev s_are_specials : Stmt := topS 16
theorem sc_are_specials : FnScope N_are_specials ["value", "deep"] (defScope s_are_specials) := ⟨rfl, rfl, rfl, by decide +kernel, rfl, by decide +kernel, by decide +kernel⟩
theorem e_are_specials {g_is_special : GF} (z : Zc K mg) (T : Std K mg "are_specials" s_are_specials ["value", "deep"]) (D_is_special : Def P w K mg base ca "is_special" ["value", "deep"] k g_is_special) : Def P w K mg base ca "are_specials" ["value", "deep"] (k + 1) (bodyT N_are_specials 2 (b_are_specials g_is_special)) :=
  def_T T sc_are_specials fun f cdv A outer s H E hr hgu tk hp => by
    refine sss_cons ?_ ?_
    · refine ss_if ?_ ?_ ?_
      · refine SW.st ?_
        refine sw_or ?_ ?_
        · refine st_not ?_
          refine st_val ?_
          refine se_isi ?_ (by decide) bb_list z.b_list (by rfl) (by rfl) z.b_isinstance
          exact se_var 0
        · refine sw_or ?_ ?_
          · refine st_cmp opd_gt ?_ ?_ (nomark _)
            · refine se_callB cd_len (by rfl) z.b_len bb_len ?_
              refine sa_cons ?_ ?_
              · exact se_var 0
              · exact sa_nil
            · exact se_int
          · refine sw_or1 ?_
            refine st_cmp (opd_ne hr.units) ?_ ?_ (nomark _)
            · refine se_lc (own := [("one", 2)]) rfl sc_are_specials.nd ?_ (blkOk_by (by rfl)) (fun _ _ _ _ _ => ?_) (fun _ _ _ _ _ => ?_) (fun _ _ _ _ _ => ?_)
              · refine si_any ?_
                exact se_var 0
              · exact sgw_name (by decide) sc_are_specials.nd (i := 2) rfl (by first | exact .inl rfl | exact .inr rfl)
              · refine sts_one ?_
                refine st_not ?_
                refine st_val ?_
                refine se_callN D_is_special ?_ ?_ tk0 (by rfl) ?_
                · exact hr
                · exact hgu
                · refine sa_cons ?_ ?_
                  · exact se_var 2
                  · refine sa_cons ?_ ?_
                    · exact se_var 1
                    · exact sa_nil
              · exact se_var 2
            · refine se_lst ?_
              exact sa_nil
      · refine sss_one ?_
        refine ss_ret ?_
        exact se_bl
      · exact sss_nil
    · refine sss_one ?_
      refine ss_ret ?_
      refine se_cmp (opd_eq hr.units) ?_ ?_ (nomark _)
      · refine se_lc (own := [("at", 3)]) rfl sc_are_specials.nd ?_ (blkOk_by (by rfl)) (fun _ _ _ _ _ => ?_) (fun _ _ _ _ _ => ?_) (fun _ _ _ _ _ => ?_)
        · refine si_range2 (by rfl) z.b_range ?_
          refine sa_cons ?_ ?_
          · exact se_int
          · refine sa_cons ?_ ?_
            · refine se_callB cd_len (by rfl) z.b_len bb_len ?_
              refine sa_cons ?_ ?_
              · exact se_var 0
              · exact sa_nil
            · exact sa_nil
        · exact sgw_name (by decide) sc_are_specials.nd (i := 3) rfl (by first | exact .inl rfl | exact .inr rfl)
        · refine sts_one ?_
          refine st_cmp (opd_ge ?_) ?_ ?_ (nomark _)
          · exact hr.units0
          · refine se_ix ?_ ?_ (fun _ _ => rfl)
            · refine se_ix ?_ ?_ (fun _ _ => rfl)
              · exact se_var 0
              · refine se_op opd_sub ?_ ?_
                · exact se_var 3
                · exact se_int
            · exact se_int
          · refine se_ix ?_ ?_ (fun _ _ => rfl)
            · refine se_ix ?_ ?_ (fun _ _ => rfl)
              · exact se_var 0
              · exact se_var 3
            · exact se_int
        · exact se_var 3
      · refine se_lst ?_
        exact sa_nil

abbrev s_is_rule_within : Stmt := topS 17
theorem sc_is_rule_within : FnScope N_is_rule_within ["value", "deep"] (defScope s_is_rule_within) := ⟨rfl, rfl, rfl, by decide +kernel, rfl, by decide +kernel, by decide +kernel⟩
theorem e_is_rule_within {g_is_word g_are_numbers_of_race g_is_order g_is_rule_within g_are_specials : GF} (z : Zc K mg) (T : Std K mg "is_rule_within" s_is_rule_within ["value", "deep"]) (D_is_word : Def P w K mg base ca "is_word" ["value", "word"] k g_is_word) (D_are_numbers_of_race : Def P w K mg base ca "are_numbers_of_race" ["need", "lead", "cap"] k g_are_numbers_of_race) (D_is_order : Def P w K mg base ca "is_order" ["value"] k g_is_order) (D_is_rule_within : Def P w K mg base ca "is_rule_within" ["value", "deep"] k g_is_rule_within) (D_are_specials : Def P w K mg base ca "are_specials" ["value", "deep"] k g_are_specials) : Def P w K mg base ca "is_rule_within" ["value", "deep"] (k + 1) (bodyT N_is_rule_within 2 (b_is_rule_within g_is_word g_are_numbers_of_race g_is_order g_is_rule_within g_are_specials)) :=
  def_T T sc_is_rule_within fun f cdv A outer s H E hr hgu tk hp => by
    refine sss_cons ?_ ?_
    · refine ss_if ?_ ?_ ?_
      · refine SW.st ?_
        refine sw_or ?_ ?_
        · refine st_val ?_
          refine se_callN D_is_word hr hgu tk (by rfl) ?_
          refine sa_cons ?_ ?_
          · exact se_var 0
          · refine sa_cons ?_ ?_
            · exact se_str
            · exact sa_nil
        · refine sw_or1 ?_
          refine st_val ?_
          refine se_callN D_is_word hr hgu tk (by rfl) ?_
          refine sa_cons ?_ ?_
          · exact se_var 0
          · refine sa_cons ?_ ?_
            · exact se_str
            · exact sa_nil
      · refine sss_one ?_
        refine ss_ret ?_
        exact se_bl
      · exact sss_nil
    · refine sss_cons ?_ ?_
      · refine ss_if ?_ ?_ ?_
        · refine SW.st ?_
          refine sw_or ?_ ?_
          · refine st_cmp (opd_eq hr.units) ?_ ?_ (nomark _)
            · exact se_var 1
            · exact se_int
          · refine sw_or ?_ ?_
            · refine st_not ?_
              refine st_val ?_
              refine se_isi ?_ (by decide) bb_tuple z.b_tuple (by rfl) (by rfl) z.b_isinstance
              exact se_var 0
            · refine sw_or ?_ ?_
              · refine st_cmp (opd_ne hr.units) ?_ ?_ (nomark _)
                · refine se_callB cd_len (by rfl) z.b_len bb_len ?_
                  refine sa_cons ?_ ?_
                  · exact se_var 0
                  · exact sa_nil
                · exact se_int
              · refine sw_or1 ?_
                refine st_not ?_
                refine st_val ?_
                refine se_isi ?_ (by decide) bb_str z.b_str (by rfl) (by rfl) z.b_isinstance
                refine se_ix ?_ ?_ (fun _ _ => rfl)
                · exact se_var 0
                · exact se_int
        · refine sss_one ?_
          refine ss_ret ?_
          exact se_bl
        · exact sss_nil
      · refine sss_cons ?_ ?_
        · refine ss_asg ?_ ?_
          · exact se_var 0
          · refine sg_tup rfl ?_
            refine sgs_cons ?_ ?_
            · exact sg_name sc_is_rule_within.nd (i := 2) rfl (by first | exact .inl rfl | exact .inr rfl)
            · refine sgs_cons ?_ ?_
              · exact sg_name sc_is_rule_within.nd (i := 3) rfl (by first | exact .inl rfl | exact .inr rfl)
              · refine sgs_cons ?_ ?_
                · exact sg_name sc_is_rule_within.nd (i := 4) rfl (by first | exact .inl rfl | exact .inr rfl)
                · refine sgs_cons ?_ ?_
                  · exact sg_name sc_is_rule_within.nd (i := 5) rfl (by first | exact .inl rfl | exact .inr rfl)
                  · refine sgs_cons ?_ ?_
                    · exact sg_name sc_is_rule_within.nd (i := 6) rfl (by first | exact .inl rfl | exact .inr rfl)
                    · refine sgs_cons ?_ ?_
                      · exact sg_name sc_is_rule_within.nd (i := 7) rfl (by first | exact .inl rfl | exact .inr rfl)
                      · refine sgs_cons ?_ sgs_nil
                        exact sg_name sc_is_rule_within.nd (i := 8) rfl (by first | exact .inl rfl | exact .inr rfl)
        · refine sss_cons ?_ ?_
          · refine ss_if ?_ ?_ ?_
            · refine SW.st ?_
              refine sw_or ?_ ?_
              · refine st_cmp (opd_ne hr.units) ?_ ?_ (nomark _)
                · exact se_var 2
                · exact se_str
              · refine sw_or ?_ ?_
                · refine st_not ?_
                  refine st_val ?_
                  refine se_callN D_are_numbers_of_race hr hgu tk (by rfl) ?_
                  refine sa_cons ?_ ?_
                  · exact se_var 3
                  · refine sa_cons ?_ ?_
                    · exact se_var 4
                    · refine sa_cons ?_ ?_
                      · exact se_var 5
                      · exact sa_nil
                · refine sw_or1 ?_
                  refine st_not ?_
                  refine st_val ?_
                  refine se_callN D_is_order hr hgu tk (by rfl) ?_
                  refine sa_cons ?_ ?_
                  · exact se_var 6
                  · exact sa_nil
            · refine sss_one ?_
              refine ss_ret ?_
              exact se_bl
            · exact sss_nil
          · refine sss_one ?_
            refine ss_ret ?_
            refine se_and ?_ ?_
            · refine se_callN D_is_rule_within hr hgu tk (by rfl) ?_
              refine sa_cons ?_ ?_
              · exact se_var 7
              · refine sa_cons ?_ ?_
                · refine se_op opd_sub ?_ ?_
                  · exact se_var 1
                  · exact se_int
                · exact sa_nil
            · refine se_one ?_
              refine se_callN D_are_specials hr hgu tk (by rfl) ?_
              refine sa_cons ?_ ?_
              · exact se_var 8
              · refine sa_cons ?_ ?_
                · refine se_op opd_sub ?_ ?_
                  · exact se_var 1
                  · exact se_int
                · exact sa_nil

abbrev s_is_rule : Stmt := topS 18
theorem sc_is_rule : FnScope N_is_rule ["value"] (defScope s_is_rule) := ⟨rfl, rfl, rfl, by decide +kernel, rfl, by decide +kernel, by decide +kernel⟩
theorem e_is_rule {g_is_rule_within : GF} (z : Zc K mg) (T : Std K mg "is_rule" s_is_rule ["value"]) (D_is_rule_within : Def P w K mg base ca "is_rule_within" ["value", "deep"] k g_is_rule_within) : Def P w K mg base ca "is_rule" ["value"] (k + 1) (bodyT N_is_rule 1 (b_is_rule g_is_rule_within)) :=
  def_T T sc_is_rule fun f cdv A outer s H E hr hgu tk hp => by
    refine sss_one ?_
    refine ss_ret ?_
    refine se_callN D_is_rule_within hr hgu tk (by rfl) ?_
    refine sa_cons ?_ ?_
    · exact se_var 0
    · refine sa_cons ?_ ?_
      · exact se_gc (by rfl) z.c_DEEPEST
      · exact sa_nil

abbrev s__law_hash : Stmt := topS 20
theorem sc__law_hash : FnScope N__law_hash ["seed", "index"] (defScope s__law_hash) := ⟨rfl, rfl, rfl, by decide +kernel, rfl, by decide +kernel, by decide +kernel⟩
theorem e__law_hash (z : Zc K mg) (T : Std K mg "_law_hash" s__law_hash ["seed", "index"]) : Def P w K mg base ca "_law_hash" ["seed", "index"] (k + 1) (bodyT N__law_hash 2 (b__law_hash)) :=
  def_T T sc__law_hash fun f cdv A outer s H E hr hgu tk hp => by
    refine sss_cons ?_ ?_
    · refine ss_set (i := 2) sc__law_hash.nd rfl (by first | exact .inl rfl | exact .inr rfl) ?_
      refine se_op opd_mod ?_ ?_
      · refine se_callTy cd_int (by rfl) z.b_int bb_int ?_
        refine sa_cons ?_ ?_
        · refine se_op opd_add ?_ ?_
          · refine se_op opd_add ?_ ?_
            · refine se_op opd_add ?_ ?_
              · refine se_op opd_mul ?_ ?_
                · exact se_var 0
                · exact se_int
              · refine se_op opd_mul ?_ ?_
                · refine se_op opd_mul ?_ ?_
                  · exact se_int
                  · exact se_var 1
                · exact se_var 1
            · refine se_op opd_mul ?_ ?_
              · exact se_int
              · exact se_var 1
          · exact se_int
        · exact sa_nil
      · exact se_int
    · refine sss_cons ?_ ?_
      · refine ss_set (i := 2) sc__law_hash.nd rfl (by first | exact .inl rfl | exact .inr rfl) ?_
        refine se_op opd_mod ?_ ?_
        · refine se_callTy cd_int (by rfl) z.b_int bb_int ?_
          refine sa_cons ?_ ?_
          · refine se_op opd_add ?_ ?_
            · refine se_op opd_add ?_ ?_
              · refine se_op opd_mul ?_ ?_
                · exact se_var 2
                · exact se_var 2
              · refine se_op opd_mul ?_ ?_
                · exact se_int
                · exact se_var 1
            · exact se_int
          · exact sa_nil
        · exact se_int
      · refine sss_one ?_
        refine ss_ret ?_
        refine se_op opd_mod ?_ ?_
        · refine se_callTy cd_int (by rfl) z.b_int bb_int ?_
          refine sa_cons ?_ ?_
          · refine se_op opd_mul ?_ ?_
            · exact se_var 2
            · exact se_int
          · exact sa_nil
        · exact se_int

abbrev s__law_random : Stmt := topS 21
theorem sc__law_random : FnScope N__law_random ["generator", "bound"] (defScope s__law_random) := ⟨rfl, rfl, rfl, by decide +kernel, rfl, by decide +kernel, by decide +kernel⟩
theorem e__law_random {g__law_hash : GF} (z : Zc K mg) (T : Std K mg "_law_random" s__law_random ["generator", "bound"]) (D__law_hash : Def P w K mg base ca "_law_hash" ["seed", "index"] k g__law_hash) : Def P w K mg base ca "_law_random" ["generator", "bound"] (k + 1) (bodyT N__law_random 2 (b__law_random g__law_hash)) :=
  def_T T sc__law_random fun f cdv A outer s H E hr hgu tk hp => by
    refine sss_cons ?_ ?_
    · refine ss_if ?_ ?_ ?_
      · refine st_cmp opd_gt ?_ ?_ (nomark _)
        · refine se_ix ?_ ?_ (fun _ _ => rfl)
          · exact se_var 0
          · exact se_int
        · exact se_int
      · refine sss_cons ?_ ?_
        · refine ss_set (i := 2) sc__law_random.nd rfl (by first | exact .inl rfl | exact .inr rfl) ?_
          refine se_op opd_mod ?_ ?_
          · refine se_callTy cd_int (by rfl) z.b_int bb_int ?_
            refine sa_cons ?_ ?_
            · refine se_ix ?_ ?_ (fun _ _ => rfl)
              · exact se_var 0
              · exact se_int
            · exact sa_nil
          · exact se_var 1
        · refine sss_cons ?_ ?_
          · refine ss_asg ?_ ?_
            · refine se_op opd_fdiv ?_ ?_
              · refine se_ix ?_ ?_ (fun _ _ => rfl)
                · exact se_var 0
                · exact se_int
              · exact se_var 1
            · refine sg_sub ?_ ?_ (by intro _; rfl)
              · exact se_var 0
              · exact se_int
          · refine sss_one ?_
            refine ss_ret ?_
            exact se_var 2
      · exact sss_nil
    · refine sss_cons ?_ ?_
      · refine ss_set (i := 2) sc__law_random.nd rfl (by first | exact .inl rfl | exact .inr rfl) ?_
        exact se_int
      · refine sss_cons ?_ ?_
        · refine ss_for hp rfl ?_ ?_ ?_
          · refine si_range1 (by rfl) z.b_range ?_
            refine sa_cons ?_ ?_
            · refine se_op opd_add ?_ ?_
              · exact se_int
              · refine se_op opd_fdiv ?_ ?_
                · refine se_bits ?_
                  exact se_var 1
                · exact se_int
            · exact sa_nil
          · exact sg_name sc__law_random.nd (i := 3) rfl (by first | exact .inl rfl | exact .inr rfl)
          · refine sss_cons ?_ ?_
            · refine ss_asg ?_ ?_
              · refine se_op opd_add ?_ ?_
                · refine se_ix ?_ ?_ (fun _ _ => rfl)
                  · exact se_var 0
                  · exact se_int
                · exact se_int
              · refine sg_sub ?_ ?_ (by intro _; rfl)
                · exact se_var 0
                · exact se_int
            · refine sss_one ?_
              refine ss_set (i := 2) sc__law_random.nd rfl (by first | exact .inl rfl | exact .inr rfl) ?_
              refine se_op opd_add ?_ ?_
              · refine se_op opd_mul ?_ ?_
                · exact se_var 2
                · exact se_int
              · refine se_callN D__law_hash hr hgu tk (by rfl) ?_
                refine sa_cons ?_ ?_
                · refine se_ix ?_ ?_ (fun _ _ => rfl)
                  · exact se_var 0
                  · exact se_int
                · refine sa_cons ?_ ?_
                  · refine se_ix ?_ ?_ (fun _ _ => rfl)
                    · exact se_var 0
                    · exact se_int
                  · exact sa_nil
        · refine sss_one ?_
          refine ss_ret ?_
          refine se_op opd_mod ?_ ?_
          · refine se_callTy cd_int (by rfl) z.b_int bb_int ?_
            refine sa_cons ?_ ?_
            · exact se_var 2
            · exact sa_nil
          · exact se_var 1

abbrev s__law_cell : Stmt := topS 22
theorem sc__law_cell : FnScope N__law_cell ["script", "index"] (defScope s__law_cell) := ⟨rfl, rfl, rfl, by decide +kernel, rfl, by decide +kernel, by decide +kernel⟩
theorem e__law_cell (z : Zc K mg) (T : Std K mg "_law_cell" s__law_cell ["script", "index"]) : Def P w K mg base ca "_law_cell" ["script", "index"] (k + 1) (bodyT N__law_cell 2 (b__law_cell)) :=
  def_T T sc__law_cell fun f cdv A outer s H E hr hgu tk hp => by
    refine sss_cons ?_ ?_
    · refine ss_if ?_ ?_ ?_
      · refine st_cmp opd_lt ?_ ?_ (nomark _)
        · exact se_var 1
        · refine se_callB cd_len (by rfl) z.b_len bb_len ?_
          refine sa_cons ?_ ?_
          · exact se_var 0
          · exact sa_nil
      · refine sss_one ?_
        refine ss_ret ?_
        refine se_ix ?_ ?_ (fun _ _ => rfl)
        · exact se_var 0
        · exact se_var 1
      · exact sss_nil
    · refine sss_one ?_
      refine ss_ret ?_
      refine se_op opd_mod ?_ ?_
      · refine se_callB (cd_sum rfl) (by rfl) z.b_sum bb_sum ?_
        refine sa_cons ?_ ?_
        · refine se_slice ?_ ?_ ?_
          · exact se_var 0
          · exact so_none
          · refine so_some ?_
            exact se_int
        · exact sa_nil
      · exact se_int

abbrev s__law_generator : Stmt := topS 23
theorem sc__law_generator : FnScope N__law_generator ["script", "index"] (defScope s__law_generator) := ⟨rfl, rfl, rfl, by decide +kernel, rfl, by decide +kernel, by decide +kernel⟩
theorem e__law_generator {g__law_cell : GF} (z : Zc K mg) (T : Std K mg "_law_generator" s__law_generator ["script", "index"]) (D__law_cell : Def P w K mg base ca "_law_cell" ["script", "index"] k g__law_cell) : Def P w K mg base ca "_law_generator" ["script", "index"] (k + 1) (bodyD N__law_generator 2 (b__law_generator g__law_cell)) :=
  def_D T sc__law_generator fun f cdv A outer s H E hr hgu tk hp => by
    refine sss_cons ?_ ?_
    · refine ss_set (i := 2) sc__law_generator.nd rfl (by first | exact .inl rfl | exact .inr rfl) ?_
      refine se_callN D__law_cell hr hgu tk (by rfl) ?_
      refine sa_cons ?_ ?_
      · exact se_var 0
      · refine sa_cons ?_ ?_
        · exact se_var 1
        · exact sa_nil
    · refine sss_one ?_
      refine ss_ret ?_
      refine se_lstC ?_
      refine sa_cons ?_ ?_
      · refine se_op opd_mod ?_ ?_
        · refine se_callTy cd_int (by rfl) z.b_int bb_int ?_
          refine sa_cons ?_ ?_
          · refine se_callB (cd_maxT rfl (hu1 hr)) (by rfl) z.b_max bb_max ?_
            refine sa_cons ?_ ?_
            · refine se_op opd_sub ?_ ?_
              · exact se_var 2
              · refine se_op opd_pow ?_ ?_
                · exact se_int
                · exact se_int
            · refine sa_cons ?_ ?_
              · exact se_int
              · exact sa_nil
          · exact sa_nil
        · refine se_op opd_pow ?_ ?_
          · refine se_op opd_pow ?_ ?_
            · exact se_int
            · exact se_int
          · exact se_int
      · refine sa_cons ?_ ?_
        · refine se_op opd_mod ?_ ?_
          · refine se_callTy cd_int (by rfl) z.b_int bb_int ?_
            refine sa_cons ?_ ?_
            · exact se_var 2
            · exact sa_nil
          · exact se_int
        · refine sa_cons ?_ ?_
          · refine se_op opd_mul ?_ ?_
            · exact se_int
            · exact se_var 1
          · exact sa_nil

abbrev s__law_pick : Stmt := topS 24
theorem sc__law_pick : FnScope N__law_pick ["generator", "things"] (defScope s__law_pick) := ⟨rfl, rfl, rfl, by decide +kernel, rfl, by decide +kernel, by decide +kernel⟩
theorem e__law_pick {g__law_random : GF} (z : Zc K mg) (T : Std K mg "_law_pick" s__law_pick ["generator", "things"]) (D__law_random : Def P w K mg base ca "_law_random" ["generator", "bound"] k g__law_random) : Def P w K mg base ca "_law_pick" ["generator", "things"] (k + 1) (bodyT N__law_pick 2 (b__law_pick g__law_random)) :=
  def_T T sc__law_pick fun f cdv A outer s H E hr hgu tk hp => by
    refine sss_one ?_
    refine ss_ret ?_
    refine se_ix ?_ ?_ (fun _ _ => rfl)
    · exact se_var 1
    · refine se_callN D__law_random hr hgu tk (by rfl) ?_
      refine sa_cons ?_ ?_
      · exact se_var 0
      · refine sa_cons ?_ ?_
        · refine se_callB cd_len (by rfl) z.b_len bb_len ?_
          refine sa_cons ?_ ?_
          · exact se_var 1
          · exact sa_nil
        · exact sa_nil

abbrev s__law_same : Stmt := topS 25
theorem sc__law_same : FnScope N__law_same ["told", "due"] (defScope s__law_same) := ⟨rfl, rfl, rfl, by decide +kernel, rfl, by decide +kernel, by decide +kernel⟩
theorem e__law_same {g__law_same : GF} (z : Zc K mg) (T : Std K mg "_law_same" s__law_same ["told", "due"]) (D__law_same : Def P w K mg base ca "_law_same" ["told", "due"] k g__law_same) : Def P w K mg base ca "_law_same" ["told", "due"] (k + 1) (bodyT N__law_same 2 (b__law_same g__law_same)) :=
  def_T T sc__law_same fun f cdv A outer s H E hr hgu tk hp => by
    refine sss_cons ?_ ?_
    · refine ss_if ?_ ?_ ?_
      · refine SW.st ?_
        refine sw_or ?_ ?_
        · refine st_cmp opd_is ?_ ?_ (nomark _)
          · exact se_var 1
          · exact se_non
        · refine sw_or ?_ ?_
          · refine st_cmp opd_is ?_ ?_ (nomark _)
            · exact se_var 1
            · exact se_bl
          · refine sw_or1 ?_
            refine st_cmp opd_is ?_ ?_ (nomark _)
            · exact se_var 1
            · exact se_bl
      · refine sss_one ?_
        refine ss_ret ?_
        refine se_ifExp ?_ ?_ ?_
        · refine st_cmp opd_is ?_ ?_ (nomark _)
          · exact se_var 1
          · exact se_non
        · refine se_cmp opd_is ?_ ?_ (nomark _)
          · exact se_var 0
          · exact se_non
        · refine se_ifExp ?_ ?_ ?_
          · refine st_cmp opd_is ?_ ?_ (nomark _)
            · exact se_var 1
            · exact se_bl
          · refine se_cmp opd_is ?_ ?_ (nomark _)
            · exact se_var 0
            · exact se_bl
          · refine se_cmp opd_is ?_ ?_ (nomark _)
            · exact se_var 0
            · exact se_bl
      · exact sss_nil
    · refine sss_cons ?_ ?_
      · refine ss_if ?_ ?_ ?_
        · refine st_val ?_
          refine se_isi2 ?_ (by decide) (by decide) bb_list z.b_list (by rfl) bb_tuple z.b_tuple (by rfl) (by rfl) z.b_isinstance
          exact se_var 1
        · refine sss_cons ?_ ?_
          · refine ss_if ?_ ?_ ?_
            · refine SW.st ?_
              refine sw_or ?_ ?_
              · refine SW.st ?_
                refine sw_and ?_ ?_
                · refine st_not ?_
                  refine st_val ?_
                  refine se_isi ?_ (by decide) bb_list z.b_list (by rfl) (by rfl) z.b_isinstance
                  exact se_var 0
                · refine sw_and1 ?_
                  refine st_val ?_
                  refine se_isi ?_ (by decide) bb_list z.b_list (by rfl) (by rfl) z.b_isinstance
                  exact se_var 1
              · refine sw_or1 ?_
                refine SW.st ?_
                refine sw_and ?_ ?_
                · refine st_not ?_
                  refine st_val ?_
                  refine se_isi ?_ (by decide) bb_tuple z.b_tuple (by rfl) (by rfl) z.b_isinstance
                  exact se_var 0
                · refine sw_and1 ?_
                  refine st_val ?_
                  refine se_isi ?_ (by decide) bb_tuple z.b_tuple (by rfl) (by rfl) z.b_isinstance
                  exact se_var 1
            · refine sss_one ?_
              refine ss_ret ?_
              exact se_bl
            · exact sss_nil
          · refine sss_one ?_
            refine ss_ret ?_
            refine se_and ?_ ?_
            · refine se_cmp (opd_eq hr.units) ?_ ?_ (nomark _)
              · refine se_callB cd_len (by rfl) z.b_len bb_len ?_
                refine sa_cons ?_ ?_
                · exact se_var 0
                · exact sa_nil
              · refine se_callB cd_len (by rfl) z.b_len bb_len ?_
                refine sa_cons ?_ ?_
                · exact se_var 1
                · exact sa_nil
            · refine se_one ?_
              refine se_cmp (opd_eq hr.units) ?_ ?_ (nomark _)
              · refine se_lc (own := [("at", 2)]) rfl sc__law_same.nd ?_ (blkOk_by (by rfl)) (fun _ _ _ _ _ => ?_) (fun _ _ _ _ _ => ?_) (fun _ _ _ _ _ => ?_)
                · refine si_range1 (by rfl) z.b_range ?_
                  refine sa_cons ?_ ?_
                  · refine se_callB cd_len (by rfl) z.b_len bb_len ?_
                    refine sa_cons ?_ ?_
                    · exact se_var 1
                    · exact sa_nil
                  · exact sa_nil
                · exact sgw_name (by decide) sc__law_same.nd (i := 2) rfl (by first | exact .inl rfl | exact .inr rfl)
                · refine sts_one ?_
                  refine st_not ?_
                  refine st_val ?_
                  refine se_callN D__law_same ?_ ?_ tk0 (by rfl) ?_
                  · exact hr
                  · exact hgu
                  · refine sa_cons ?_ ?_
                    · refine se_ix ?_ ?_ (fun _ _ => rfl)
                      · exact se_var 0
                      · exact se_var 2
                    · refine sa_cons ?_ ?_
                      · refine se_ix ?_ ?_ (fun _ _ => rfl)
                        · exact se_var 1
                        · exact se_var 2
                      · exact sa_nil
                · exact se_var 2
              · refine se_lst ?_
                exact sa_nil
        · exact sss_nil
      · refine sss_cons ?_ ?_
        · refine ss_if ?_ ?_ ?_
          · refine st_val ?_
            refine se_isi ?_ (by decide) bb_int z.b_int (by rfl) (by rfl) z.b_isinstance
            exact se_var 1
          · refine sss_one ?_
            refine ss_ret ?_
            refine se_and ?_ ?_
            · refine se_isi ?_ (by decide) bb_int z.b_int (by rfl) (by rfl) z.b_isinstance
              exact se_var 0
            · refine se_and ?_ ?_
              · refine se_not ?_
                refine se_isi ?_ (by decide) bb_bool z.b_bool (by rfl) (by rfl) z.b_isinstance
                exact se_var 0
              · refine se_one ?_
                refine se_cmp (opd_eq hr.units) ?_ ?_ (nomark _)
                · exact se_var 0
                · exact se_var 1
          · exact sss_nil
        · refine sss_one ?_
          refine ss_ret ?_
          refine se_and ?_ ?_
          · refine se_isi ?_ (by decide) bb_str z.b_str (by rfl) (by rfl) z.b_isinstance
            exact se_var 0
          · refine se_one ?_
            refine se_cmp (opd_eq hr.units) ?_ ?_ (nomark _)
            · exact se_var 0
            · exact se_var 1

abbrev s__law_order : Stmt := topS 26
theorem sc__law_order : FnScope N__law_order ["generator"] (defScope s__law_order) := ⟨rfl, rfl, rfl, by decide +kernel, rfl, by decide +kernel, by decide +kernel⟩
theorem e__law_order {g__law_pick g__law_random : GF} (z : Zc K mg) (T : Std K mg "_law_order" s__law_order ["generator"]) (D__law_pick : Def P w K mg base ca "_law_pick" ["generator", "things"] k g__law_pick) (D__law_random : Def P w K mg base ca "_law_random" ["generator", "bound"] k g__law_random) : Def P w K mg base ca "_law_order" ["generator"] (k + 1) (bodyT N__law_order 1 (b__law_order g__law_pick g__law_random)) :=
  def_T T sc__law_order fun f cdv A outer s H E hr hgu tk hp => by
    refine sss_cons ?_ ?_
    · refine ss_set (i := 1) sc__law_order.nd rfl (by first | exact .inl rfl | exact .inr rfl) ?_
      refine se_callN D__law_pick hr hgu tk (by rfl) ?_
      refine sa_cons ?_ ?_
      · exact se_var 0
      · refine sa_cons ?_ ?_
        · refine se_lst ?_
          refine sa_cons ?_ ?_
          · exact se_str
          · refine sa_cons ?_ ?_
            · exact se_str
            · refine sa_cons ?_ ?_
              · exact se_str
              · refine sa_cons ?_ ?_
                · exact se_str
                · refine sa_cons ?_ ?_
                  · exact se_str
                  · refine sa_cons ?_ ?_
                    · exact se_str
                    · exact sa_nil
        · exact sa_nil
    · refine sss_cons ?_ ?_
      · refine ss_if ?_ ?_ ?_
        · refine st_cmp (opd_ne hr.units) ?_ ?_ (nomark _)
          · exact se_var 1
          · exact se_str
        · refine sss_one ?_
          refine ss_ret ?_
          refine se_tup ?_
          refine sa_cons ?_ ?_
          · exact se_var 1
          · exact sa_nil
        · exact sss_nil
      · refine sss_one ?_
        refine ss_ret ?_
        refine se_tup ?_
        refine sa_cons ?_ ?_
        · exact se_str
        · refine sa_cons ?_ ?_
          · refine se_lc (own := [("mark", 2)]) rfl sc__law_order.nd ?_ (blkOk_by (by rfl)) (fun _ _ _ _ _ => ?_) (fun _ _ _ _ _ => sts_nil) (fun _ _ _ _ _ => ?_)
            · refine si_range1 (by rfl) z.b_range ?_
              refine sa_cons ?_ ?_
              · refine se_callN D__law_pick hr hgu tk (by rfl) ?_
                refine sa_cons ?_ ?_
                · exact se_var 0
                · refine sa_cons ?_ ?_
                  · refine se_lst ?_
                    refine sa_cons ?_ ?_
                    · exact se_int
                    · refine sa_cons ?_ ?_
                      · exact se_int
                      · refine sa_cons ?_ ?_
                        · exact se_int
                        · refine sa_cons ?_ ?_
                          · exact se_int
                          · refine sa_cons ?_ ?_
                            · exact se_int
                            · refine sa_cons ?_ ?_
                              · exact se_int
                              · exact sa_nil
                  · exact sa_nil
              · exact sa_nil
            · exact sgw_name (by decide) sc__law_order.nd (i := 2) rfl (by first | exact .inl rfl | exact .inr rfl)
            · refine se_callN D__law_random ?_ ?_ tk0 (by rfl) ?_
              · exact hr
              · exact hgu
              · refine sa_cons ?_ ?_
                · exact se_var 0
                · refine sa_cons ?_ ?_
                  · exact se_int
                  · exact sa_nil
          · exact sa_nil

abbrev s__law_race : Stmt := topS 27
theorem sc__law_race : FnScope N__law_race ["generator", "deep", "most"] (defScope s__law_race) := ⟨rfl, rfl, rfl, by decide +kernel, rfl, by decide +kernel, by decide +kernel⟩
theorem e__law_race {g__law_random g__law_pick g__law_rule g__law_order : GF} (z : Zc K mg) (T : Std K mg "_law_race" s__law_race ["generator", "deep", "most"]) (D__law_random : Def P w K mg base ca "_law_random" ["generator", "bound"] k g__law_random) (D__law_pick : Def P w K mg base ca "_law_pick" ["generator", "things"] k g__law_pick) (D__law_rule : Def P w K mg base ca "_law_rule" ["generator", "deep", "most"] k g__law_rule) (D__law_order : Def P w K mg base ca "_law_order" ["generator"] k g__law_order) : Def P w K mg base ca "_law_race" ["generator", "deep", "most"] (k + 1) (bodyT N__law_race 3 (b__law_race g__law_random g__law_pick g__law_rule g__law_order)) :=
  def_T T sc__law_race fun f cdv A outer s H E hr hgu tk hp => by
    refine sss_cons ?_ ?_
    · refine ss_par3 (i := 3) (j := 4) (l := 5) rfl sc__law_race.nd rfl rfl rfl (by decide) (by decide) (by decide) ?_
      refine sa_cons ?_ ?_
      · refine se_op opd_add ?_ ?_
        · exact se_int
        · refine se_callN D__law_random hr hgu tk (by rfl) ?_
          refine sa_cons ?_ ?_
          · exact se_var 0
          · refine sa_cons ?_ ?_
            · exact se_var 2
            · exact sa_nil
      · refine sa_cons ?_ ?_
        · refine se_callN D__law_pick hr hgu tk (by rfl) ?_
          refine sa_cons ?_ ?_
          · exact se_var 0
          · refine sa_cons ?_ ?_
            · refine se_lst ?_
              refine sa_cons ?_ ?_
              · exact se_int
              · refine sa_cons ?_ ?_
                · exact se_int
                · refine sa_cons ?_ ?_
                  · exact se_int
                  · refine sa_cons ?_ ?_
                    · exact se_int
                    · refine sa_cons ?_ ?_
                      · exact se_int
                      · refine sa_cons ?_ ?_
                        · exact se_int
                        · exact sa_nil
            · exact sa_nil
        · refine sa_cons ?_ sa_nil
          exact se_non
    · refine sss_cons ?_ ?_
      · refine ss_if ?_ ?_ ?_
        · refine st_cmp (opd_eq hr.units) ?_ ?_ (nomark _)
          · refine se_callN D__law_random hr hgu tk (by rfl) ?_
            refine sa_cons ?_ ?_
            · exact se_var 0
            · refine sa_cons ?_ ?_
              · exact se_int
              · exact sa_nil
          · exact se_int
        · refine sss_one ?_
          refine ss_set (i := 5) sc__law_race.nd rfl (by first | exact .inl rfl | exact .inr rfl) ?_
          refine se_op opd_add ?_ ?_
          · exact se_var 3
          · refine se_callN D__law_random hr hgu tk (by rfl) ?_
            refine sa_cons ?_ ?_
            · exact se_var 0
            · refine sa_cons ?_ ?_
              · exact se_int
              · exact sa_nil
        · exact sss_nil
      · refine sss_cons ?_ ?_
        · refine ss_par (i := 6) (j := 7) rfl sc__law_race.nd rfl rfl (by decide) ?_
          refine sa_cons ?_ ?_
          · refine se_lstC ?_
            exact sa_nil
          · refine sa_cons ?_ sa_nil
            refine se_callN D__law_rule hr hgu tk (by rfl) ?_
            refine sa_cons ?_ ?_
            · exact se_var 0
            · refine sa_cons ?_ ?_
              · refine se_op opd_sub ?_ ?_
                · exact se_var 1
                · exact se_int
              · refine sa_cons ?_ ?_
                · exact se_var 2
                · exact sa_nil
        · refine sss_cons ?_ ?_
          · refine ss_for hp rfl ?_ ?_ ?_
            · refine si_range1 (by rfl) z.b_range ?_
              refine sa_cons ?_ ?_
              · refine se_callN D__law_pick hr hgu tk (by rfl) ?_
                refine sa_cons ?_ ?_
                · exact se_var 0
                · refine sa_cons ?_ ?_
                  · refine se_lst ?_
                    refine sa_cons ?_ ?_
                    · exact se_int
                    · refine sa_cons ?_ ?_
                      · exact se_int
                      · refine sa_cons ?_ ?_
                        · exact se_int
                        · refine sa_cons ?_ ?_
                          · exact se_int
                          · refine sa_cons ?_ ?_
                            · exact se_int
                            · exact sa_nil
                  · exact sa_nil
              · exact sa_nil
            · exact sg_name sc__law_race.nd (i := 8) rfl (by first | exact .inl rfl | exact .inr rfl)
            · refine sss_cons ?_ ?_
              · refine ss_set (i := 9) sc__law_race.nd rfl (by first | exact .inl rfl | exact .inr rfl) ?_
                refine se_tup ?_
                refine sa_cons ?_ ?_
                · refine se_callN D__law_random hr hgu tk (by rfl) ?_
                  refine sa_cons ?_ ?_
                  · exact se_var 0
                  · refine sa_cons ?_ ?_
                    · refine se_op opd_add ?_ ?_
                      · exact se_var 3
                      · exact se_int
                    · exact sa_nil
                · refine sa_cons ?_ ?_
                  · refine se_callN D__law_random hr hgu tk (by rfl) ?_
                    refine sa_cons ?_ ?_
                    · exact se_var 0
                    · refine sa_cons ?_ ?_
                      · refine se_op opd_add ?_ ?_
                        · exact se_var 3
                        · exact se_int
                      · exact sa_nil
                  · exact sa_nil
              · refine sss_one ?_
                refine ss_if ?_ ?_ ?_
                · refine st_cmp (opd_notIn (hu65 hr)) ?_ ?_ (by rfl)
                  · exact se_var 9
                  · refine se_lc (own := [("place", 10), ("special", 11)]) rfl sc__law_race.nd ?_ (blkOk_by (by rfl)) (fun _ _ _ _ _ => ?_) (fun _ _ _ _ _ => sts_nil) (fun _ _ _ _ _ => ?_)
                    · refine si_any ?_
                      exact se_var 6
                    · refine sgw_tup rfl ?_
                      refine sgws_cons ?_ ?_
                      · exact sgw_name (by decide) sc__law_race.nd (i := 10) rfl (by first | exact .inl rfl | exact .inr rfl)
                      · refine sgws_cons ?_ sgws_nil
                        exact sgw_name (by decide) sc__law_race.nd (i := 11) rfl (by first | exact .inl rfl | exact .inr rfl)
                    · exact se_var 10
                · refine sss_one ?_
                  refine ss_expr ?_
                  refine se_app1 ?_ ?_
                  · exact se_var 6
                  · refine se_tup ?_
                    refine sa_cons ?_ ?_
                    · exact se_var 9
                    · refine sa_cons ?_ ?_
                      · refine se_callN D__law_rule hr hgu tk (by rfl) ?_
                        refine sa_cons ?_ ?_
                        · exact se_var 0
                        · refine sa_cons ?_ ?_
                          · refine se_op opd_sub ?_ ?_
                            · exact se_var 1
                            · exact se_int
                          · refine sa_cons ?_ ?_
                            · exact se_var 2
                            · exact sa_nil
                      · exact sa_nil
                · exact sss_nil
          · refine sss_one ?_
            refine ss_ret ?_
            refine se_tup ?_
            refine sa_cons ?_ ?_
            · exact se_str
            · refine sa_cons ?_ ?_
              · exact se_var 3
              · refine sa_cons ?_ ?_
                · exact se_var 4
                · refine sa_cons ?_ ?_
                  · exact se_var 5
                  · refine sa_cons ?_ ?_
                    · refine se_callN D__law_order hr hgu tk (by rfl) ?_
                      refine sa_cons ?_ ?_
                      · exact se_var 0
                      · exact sa_nil
                    · refine sa_cons ?_ ?_
                      · exact se_var 7
                      · refine sa_cons ?_ ?_
                        · refine se_callB (cd_sorted (hu66 hr)) (by rfl) z.b_sorted bb_sorted ?_
                          refine sa_cons ?_ ?_
                          · exact se_var 6
                          · exact sa_nil
                        · exact sa_nil

abbrev s__law_rule : Stmt := topS 28
theorem sc__law_rule : FnScope N__law_rule ["generator", "deep", "most"] (defScope s__law_rule) := ⟨rfl, rfl, rfl, by decide +kernel, rfl, by decide +kernel, by decide +kernel⟩
theorem e__law_rule {g__law_random g__law_pick g__law_race : GF} (z : Zc K mg) (T : Std K mg "_law_rule" s__law_rule ["generator", "deep", "most"]) (D__law_random : Def P w K mg base ca "_law_random" ["generator", "bound"] k g__law_random) (D__law_pick : Def P w K mg base ca "_law_pick" ["generator", "things"] k g__law_pick) (D__law_race : Def P w K mg base ca "_law_race" ["generator", "deep", "most"] k g__law_race) : Def P w K mg base ca "_law_rule" ["generator", "deep", "most"] (k + 1) (bodyT N__law_rule 3 (b__law_rule g__law_random g__law_pick g__law_race)) :=
  def_T T sc__law_rule fun f cdv A outer s H E hr hgu tk hp => by
    refine sss_cons ?_ ?_
    · refine ss_if ?_ ?_ ?_
      · refine SW.st ?_
        refine sw_or ?_ ?_
        · refine st_cmp (opd_eq hr.units) ?_ ?_ (nomark _)
          · exact se_var 1
          · exact se_int
        · refine sw_or1 ?_
          refine st_cmp (opd_eq hr.units) ?_ ?_ (nomark _)
          · refine se_callN D__law_random hr hgu tk (by rfl) ?_
            refine sa_cons ?_ ?_
            · exact se_var 0
            · refine sa_cons ?_ ?_
              · exact se_int
              · exact sa_nil
          · exact se_int
      · refine sss_one ?_
        refine ss_ret ?_
        refine se_callN D__law_pick hr hgu tk (by rfl) ?_
        refine sa_cons ?_ ?_
        · exact se_var 0
        · refine sa_cons ?_ ?_
          · refine se_lst ?_
            refine sa_cons ?_ ?_
            · refine se_tup ?_
              refine sa_cons ?_ ?_
              · exact se_str
              · exact sa_nil
            · refine sa_cons ?_ ?_
              · refine se_tup ?_
                refine sa_cons ?_ ?_
                · exact se_str
                · exact sa_nil
              · refine sa_cons ?_ ?_
                · refine se_tup ?_
                  refine sa_cons ?_ ?_
                  · exact se_str
                  · exact sa_nil
                · refine sa_cons ?_ ?_
                  · refine se_tup ?_
                    refine sa_cons ?_ ?_
                    · exact se_str
                    · exact sa_nil
                  · exact sa_nil
          · exact sa_nil
      · exact sss_nil
    · refine sss_one ?_
      refine ss_ret ?_
      refine se_callN D__law_race hr hgu tk (by rfl) ?_
      refine sa_cons ?_ ?_
      · exact se_var 0
      · refine sa_cons ?_ ?_
        · exact se_var 1
        · refine sa_cons ?_ ?_
          · exact se_var 2
          · exact sa_nil

abbrev s__law_nested : Stmt := topS 29
theorem sc__law_nested : FnScope N__law_nested ["generator", "deep"] (defScope s__law_nested) := ⟨rfl, rfl, rfl, by decide +kernel, rfl, by decide +kernel, by decide +kernel⟩
theorem e__law_nested {g__law_pick g__law_random g__law_order : GF} (z : Zc K mg) (T : Std K mg "_law_nested" s__law_nested ["generator", "deep"]) (D__law_pick : Def P w K mg base ca "_law_pick" ["generator", "things"] k g__law_pick) (D__law_random : Def P w K mg base ca "_law_random" ["generator", "bound"] k g__law_random) (D__law_order : Def P w K mg base ca "_law_order" ["generator"] k g__law_order) : Def P w K mg base ca "_law_nested" ["generator", "deep"] (k + 1) (bodyT N__law_nested 2 (b__law_nested g__law_pick g__law_random g__law_order)) :=
  def_T T sc__law_nested fun f cdv A outer s H E hr hgu tk hp => by
    refine sss_cons ?_ ?_
    · refine ss_set (i := 2) sc__law_nested.nd rfl (by first | exact .inl rfl | exact .inr rfl) ?_
      refine se_callN D__law_pick hr hgu tk (by rfl) ?_
      refine sa_cons ?_ ?_
      · exact se_var 0
      · refine sa_cons ?_ ?_
        · refine se_lst ?_
          refine sa_cons ?_ ?_
          · refine se_tup ?_
            refine sa_cons ?_ ?_
            · exact se_str
            · exact sa_nil
          · refine sa_cons ?_ ?_
            · refine se_tup ?_
              refine sa_cons ?_ ?_
              · exact se_str
              · exact sa_nil
            · exact sa_nil
        · exact sa_nil
    · refine sss_cons ?_ ?_
      · refine ss_for hp rfl ?_ ?_ ?_
        · refine si_range1 (by rfl) z.b_range ?_
          refine sa_cons ?_ ?_
          · exact se_var 1
          · exact sa_nil
        · exact sg_name sc__law_nested.nd (i := 3) rfl (by first | exact .inl rfl | exact .inr rfl)
        · refine sss_cons ?_ ?_
          · refine ss_set (i := 4) sc__law_nested.nd rfl (by first | exact .inl rfl | exact .inr rfl) ?_
            refine se_ifExp ?_ ?_ ?_
            · refine st_cmp (opd_eq hr.units) ?_ ?_ (nomark _)
              · refine se_callN D__law_random hr hgu tk (by rfl) ?_
                refine sa_cons ?_ ?_
                · exact se_var 0
                · refine sa_cons ?_ ?_
                  · exact se_int
                  · exact sa_nil
              · exact se_int
            · refine se_lst ?_
              refine sa_cons ?_ ?_
              · refine se_tup ?_
                refine sa_cons ?_ ?_
                · refine se_tup ?_
                  refine sa_cons ?_ ?_
                  · exact se_var 3
                  · refine sa_cons ?_ ?_
                    · exact se_int
                    · exact sa_nil
                · refine sa_cons ?_ ?_
                  · exact se_var 2
                  · exact sa_nil
              · exact sa_nil
            · refine se_lst ?_
              exact sa_nil
          · refine sss_cons ?_ ?_
            · refine ss_set (i := 5) sc__law_nested.nd rfl (by first | exact .inl rfl | exact .inr rfl) ?_
              refine se_op opd_add ?_ ?_
              · exact se_int
              · refine se_callN D__law_random hr hgu tk (by rfl) ?_
                refine sa_cons ?_ ?_
                · exact se_var 0
                · refine sa_cons ?_ ?_
                  · exact se_int
                  · exact sa_nil
            · refine sss_cons ?_ ?_
              · refine ss_set (i := 6) sc__law_nested.nd rfl (by first | exact .inl rfl | exact .inr rfl) ?_
                refine se_callN D__law_pick hr hgu tk (by rfl) ?_
                refine sa_cons ?_ ?_
                · exact se_var 0
                · refine sa_cons ?_ ?_
                  · refine se_lst ?_
                    refine sa_cons ?_ ?_
                    · exact se_non
                    · refine sa_cons ?_ ?_
                      · exact se_var 5
                      · refine sa_cons ?_ ?_
                        · exact se_int
                        · exact sa_nil
                  · exact sa_nil
              · refine sss_one ?_
                refine ss_set (i := 2) sc__law_nested.nd rfl (by first | exact .inl rfl | exact .inr rfl) ?_
                refine se_tup ?_
                refine sa_cons ?_ ?_
                · exact se_str
                · refine sa_cons ?_ ?_
                  · exact se_var 5
                  · refine sa_cons ?_ ?_
                    · refine se_op opd_add ?_ ?_
                      · exact se_int
                      · refine se_callN D__law_random hr hgu tk (by rfl) ?_
                        refine sa_cons ?_ ?_
                        · exact se_var 0
                        · refine sa_cons ?_ ?_
                          · exact se_int
                          · exact sa_nil
                    · refine sa_cons ?_ ?_
                      · exact se_var 6
                      · refine sa_cons ?_ ?_
                        · refine se_callN D__law_order hr hgu tk (by rfl) ?_
                          refine sa_cons ?_ ?_
                          · exact se_var 0
                          · exact sa_nil
                        · refine sa_cons ?_ ?_
                          · exact se_var 2
                          · refine sa_cons ?_ ?_
                            · exact se_var 4
                            · exact sa_nil
      · refine sss_one ?_
        refine ss_ret ?_
        exact se_var 2

abbrev s__law_wrong_races : Stmt := topS 30
theorem sc__law_wrong_races : FnScope N__law_wrong_races ["rule"] (defScope s__law_wrong_races) := ⟨rfl, rfl, rfl, by decide +kernel, rfl, by decide +kernel, by decide +kernel⟩
theorem e__law_wrong_races (z : Zc K mg) (T : Std K mg "_law_wrong_races" s__law_wrong_races ["rule"]) : Def P w K mg base ca "_law_wrong_races" ["rule"] (k + 1) (bodyT N__law_wrong_races 1 (b__law_wrong_races)) :=
  def_T T sc__law_wrong_races fun f cdv A outer s H E hr hgu tk hp => by
    refine sss_cons ?_ ?_
    · refine ss_asg ?_ ?_
      · exact se_var 0
      · refine sg_tup rfl ?_
        refine sgs_cons ?_ ?_
        · exact sg_name sc__law_wrong_races.nd (i := 1) rfl (by first | exact .inl rfl | exact .inr rfl)
        · refine sgs_cons ?_ ?_
          · exact sg_name sc__law_wrong_races.nd (i := 2) rfl (by first | exact .inl rfl | exact .inr rfl)
          · refine sgs_cons ?_ ?_
            · exact sg_name sc__law_wrong_races.nd (i := 3) rfl (by first | exact .inl rfl | exact .inr rfl)
            · refine sgs_cons ?_ ?_
              · exact sg_name sc__law_wrong_races.nd (i := 4) rfl (by first | exact .inl rfl | exact .inr rfl)
              · refine sgs_cons ?_ ?_
                · exact sg_name sc__law_wrong_races.nd (i := 5) rfl (by first | exact .inl rfl | exact .inr rfl)
                · refine sgs_cons ?_ ?_
                  · exact sg_name sc__law_wrong_races.nd (i := 6) rfl (by first | exact .inl rfl | exact .inr rfl)
                  · refine sgs_cons ?_ sgs_nil
                    exact sg_name sc__law_wrong_races.nd (i := 7) rfl (by first | exact .inl rfl | exact .inr rfl)
    · refine sss_cons ?_ ?_
      · refine ss_setLc (i := 8) (own := [("at", 9)]) rfl sc__law_wrong_races.nd rfl (by rfl) ?_ (blkOk_by (by rfl)) (fun _ _ _ _ _ => ?_) (fun _ _ _ _ _ => sts_nil) (fun _ _ _ _ _ => ?_)
        · refine si_range1 (by rfl) z.b_range ?_
          refine sa_cons ?_ ?_
          · exact se_int
          · exact sa_nil
        · exact sgw_name (by decide) sc__law_wrong_races.nd (i := 9) rfl (by first | exact .inl rfl | exact .inr rfl)
        · refine se_tup ?_
          refine sa_cons ?_ ?_
          · refine se_tup ?_
            refine sa_cons ?_ ?_
            · exact se_var 9
            · refine sa_cons ?_ ?_
              · exact se_var 9
              · exact sa_nil
          · refine sa_cons ?_ ?_
            · refine se_tup ?_
              refine sa_cons ?_ ?_
              · exact se_str
              · exact sa_nil
            · exact sa_nil
      · refine sss_cons ?_ ?_
        · refine ss_set (i := 10) sc__law_wrong_races.nd rfl (by first | exact .inl rfl | exact .inr rfl) ?_
          refine se_lstC ?_
          refine sa_cons ?_ ?_
          · refine se_callTy cd_list (by rfl) z.b_list bb_list ?_
            refine sa_cons ?_ ?_
            · exact se_var 0
            · exact sa_nil
          · refine sa_cons ?_ ?_
            · refine se_slice ?_ ?_ ?_
              · exact se_var 0
              · exact so_none
              · refine so_some ?_
                exact se_int
            · refine sa_cons ?_ ?_
              · refine se_op opd_add ?_ ?_
                · exact se_var 0
                · refine se_tup ?_
                  refine sa_cons ?_ ?_
                  · exact se_int
                  · exact sa_nil
              · refine sa_cons ?_ ?_
                · refine se_op opd_add ?_ ?_
                  · refine se_tup ?_
                    refine sa_cons ?_ ?_
                    · exact se_str
                    · exact sa_nil
                  · refine se_slice ?_ ?_ ?_
                    · exact se_var 0
                    · refine so_some ?_
                      exact se_int
                    · exact so_none
                · refine sa_cons ?_ ?_
                  · refine se_op opd_add ?_ ?_
                    · refine se_tup ?_
                      refine sa_cons ?_ ?_
                      · exact se_non
                      · exact sa_nil
                    · refine se_slice ?_ ?_ ?_
                      · exact se_var 0
                      · refine so_some ?_
                        exact se_int
                      · exact so_none
                  · refine sa_cons ?_ ?_
                    · refine se_op opd_add ?_ ?_
                      · refine se_tup ?_
                        refine sa_cons ?_ ?_
                        · exact se_var 1
                        · refine sa_cons ?_ ?_
                          · exact se_int
                          · refine sa_cons ?_ ?_
                            · exact se_var 3
                            · refine sa_cons ?_ ?_
                              · exact se_non
                              · exact sa_nil
                      · refine se_slice ?_ ?_ ?_
                        · exact se_var 0
                        · refine so_some ?_
                          exact se_int
                        · exact so_none
                    · refine sa_cons ?_ ?_
                      · refine se_op opd_add ?_ ?_
                        · refine se_tup ?_
                          refine sa_cons ?_ ?_
                          · exact se_var 1
                          · refine sa_cons ?_ ?_
                            · exact se_int
                            · refine sa_cons ?_ ?_
                              · exact se_var 3
                              · refine sa_cons ?_ ?_
                                · exact se_non
                                · exact sa_nil
                        · refine se_slice ?_ ?_ ?_
                          · exact se_var 0
                          · refine so_some ?_
                            exact se_int
                          · exact so_none
                      · refine sa_cons ?_ ?_
                        · refine se_op opd_add ?_ ?_
                          · refine se_tup ?_
                            refine sa_cons ?_ ?_
                            · exact se_var 1
                            · refine sa_cons ?_ ?_
                              · exact se_bl
                              · refine sa_cons ?_ ?_
                                · exact se_var 3
                                · refine sa_cons ?_ ?_
                                  · exact se_non
                                  · exact sa_nil
                          · refine se_slice ?_ ?_ ?_
                            · exact se_var 0
                            · refine so_some ?_
                              exact se_int
                            · exact so_none
                        · exact sa_nil
        · refine sss_cons ?_ ?_
          · refine ss_set (i := 10) sc__law_wrong_races.nd rfl (by first | exact .inl rfl | exact .inr rfl) ?_
            refine se_addC ?_ ?_
            · exact se_var 10
            · refine se_lst ?_
              refine sa_cons ?_ ?_
              · refine se_op opd_add ?_ ?_
                · refine se_tup ?_
                  refine sa_cons ?_ ?_
                  · exact se_var 1
                  · refine sa_cons ?_ ?_
                    · exact se_var 2
                    · refine sa_cons ?_ ?_
                      · exact se_int
                      · exact sa_nil
                · refine se_slice ?_ ?_ ?_
                  · exact se_var 0
                  · refine so_some ?_
                    exact se_int
                  · exact so_none
              · refine sa_cons ?_ ?_
                · refine se_op opd_add ?_ ?_
                  · refine se_tup ?_
                    refine sa_cons ?_ ?_
                    · exact se_var 1
                    · refine sa_cons ?_ ?_
                      · exact se_var 2
                      · refine sa_cons ?_ ?_
                        · exact se_int
                        · exact sa_nil
                  · refine se_slice ?_ ?_ ?_
                    · exact se_var 0
                    · refine so_some ?_
                      exact se_int
                    · exact so_none
                · refine sa_cons ?_ ?_
                  · refine se_op opd_add ?_ ?_
                    · refine se_tup ?_
                      refine sa_cons ?_ ?_
                      · exact se_var 1
                      · refine sa_cons ?_ ?_
                        · exact se_var 2
                        · refine sa_cons ?_ ?_
                          · exact se_bl
                          · exact sa_nil
                    · refine se_slice ?_ ?_ ?_
                      · exact se_var 0
                      · refine so_some ?_
                        exact se_int
                      · exact so_none
                  · refine sa_cons ?_ ?_
                    · refine se_op opd_add ?_ ?_
                      · refine se_tup ?_
                        refine sa_cons ?_ ?_
                        · exact se_var 1
                        · refine sa_cons ?_ ?_
                          · exact se_var 2
                          · refine sa_cons ?_ ?_
                            · exact se_var 3
                            · refine sa_cons ?_ ?_
                              · refine se_op opd_sub ?_ ?_
                                · exact se_var 2
                                · exact se_int
                              · exact sa_nil
                      · refine se_slice ?_ ?_ ?_
                        · exact se_var 0
                        · refine so_some ?_
                          exact se_int
                        · exact so_none
                    · refine sa_cons ?_ ?_
                      · refine se_op opd_add ?_ ?_
                        · refine se_tup ?_
                          refine sa_cons ?_ ?_
                          · exact se_var 1
                          · refine sa_cons ?_ ?_
                            · exact se_var 2
                            · refine sa_cons ?_ ?_
                              · exact se_var 3
                              · refine sa_cons ?_ ?_
                                · exact se_int
                                · exact sa_nil
                        · refine se_slice ?_ ?_ ?_
                          · exact se_var 0
                          · refine so_some ?_
                            exact se_int
                          · exact so_none
                      · exact sa_nil
          · refine sss_cons ?_ ?_
            · refine ss_set (i := 10) sc__law_wrong_races.nd rfl (by first | exact .inl rfl | exact .inr rfl) ?_
              refine se_addC ?_ ?_
              · exact se_var 10
              · refine se_lst ?_
                refine sa_cons ?_ ?_
                · refine se_op opd_add ?_ ?_
                  · refine se_tup ?_
                    refine sa_cons ?_ ?_
                    · exact se_var 1
                    · refine sa_cons ?_ ?_
                      · exact se_var 2
                      · refine sa_cons ?_ ?_
                        · exact se_var 3
                        · refine sa_cons ?_ ?_
                          · exact se_str
                          · exact sa_nil
                  · refine se_slice ?_ ?_ ?_
                    · exact se_var 0
                    · refine so_some ?_
                      exact se_int
                    · exact so_none
                · refine sa_cons ?_ ?_
                  · refine se_op opd_add ?_ ?_
                    · refine se_tup ?_
                      refine sa_cons ?_ ?_
                      · exact se_var 1
                      · refine sa_cons ?_ ?_
                        · refine se_callTy cd_str (by rfl) z.b_str bb_str ?_
                          refine sa_cons ?_ ?_
                          · exact se_var 2
                          · exact sa_nil
                        · refine sa_cons ?_ ?_
                          · exact se_var 3
                          · refine sa_cons ?_ ?_
                            · exact se_non
                            · exact sa_nil
                    · refine se_slice ?_ ?_ ?_
                      · exact se_var 0
                      · refine so_some ?_
                        exact se_int
                      · exact so_none
                  · refine sa_cons ?_ ?_
                    · refine se_op opd_add ?_ ?_
                      · refine se_tup ?_
                        refine sa_cons ?_ ?_
                        · exact se_var 1
                        · refine sa_cons ?_ ?_
                          · exact se_int
                          · refine sa_cons ?_ ?_
                            · exact se_var 3
                            · refine sa_cons ?_ ?_
                              · exact se_bl
                              · exact sa_nil
                      · refine se_slice ?_ ?_ ?_
                        · exact se_var 0
                        · refine so_some ?_
                          exact se_int
                        · exact so_none
                    · refine sa_cons ?_ ?_
                      · refine se_op opd_add ?_ ?_
                        · refine se_tup ?_
                          refine sa_cons ?_ ?_
                          · exact se_var 1
                          · refine sa_cons ?_ ?_
                            · exact se_var 2
                            · refine sa_cons ?_ ?_
                              · exact se_var 3
                              · refine sa_cons ?_ ?_
                                · exact se_var 4
                                · refine sa_cons ?_ ?_
                                  · exact se_non
                                  · exact sa_nil
                        · refine se_slice ?_ ?_ ?_
                          · exact se_var 0
                          · refine so_some ?_
                            exact se_int
                          · exact so_none
                      · exact sa_nil
            · refine sss_cons ?_ ?_
              · refine ss_for hp rfl ?_ ?_ ?_
                · refine si_any ?_
                  refine se_lst ?_
                  refine sa_cons ?_ ?_
                  · exact se_str
                  · refine sa_cons ?_ ?_
                    · refine se_tup ?_
                      refine sa_cons ?_ ?_
                      · exact se_str
                      · exact sa_nil
                    · refine sa_cons ?_ ?_
                      · refine se_tup ?_
                        refine sa_cons ?_ ?_
                        · exact se_str
                        · refine sa_cons ?_ ?_
                          · refine se_lst ?_
                            exact sa_nil
                          · exact sa_nil
                      · refine sa_cons ?_ ?_
                        · refine se_tup ?_
                          refine sa_cons ?_ ?_
                          · exact se_str
                          · exact sa_nil
                        · exact sa_nil
                · exact sg_name sc__law_wrong_races.nd (i := 5) rfl (by first | exact .inl rfl | exact .inr rfl)
                · refine sss_one ?_
                  refine ss_expr ?_
                  refine se_app1 ?_ ?_
                  · exact se_var 10
                  · refine se_op opd_add ?_ ?_
                    · refine se_tup ?_
                      refine sa_cons ?_ ?_
                      · exact se_var 1
                      · refine sa_cons ?_ ?_
                        · exact se_var 2
                        · refine sa_cons ?_ ?_
                          · exact se_var 3
                          · refine sa_cons ?_ ?_
                            · exact se_var 4
                            · refine sa_cons ?_ ?_
                              · exact se_var 5
                              · exact sa_nil
                    · refine se_slice ?_ ?_ ?_
                      · exact se_var 0
                      · refine so_some ?_
                        exact se_int
                      · exact so_none
              · refine sss_cons ?_ ?_
                · refine ss_set (i := 10) sc__law_wrong_races.nd rfl (by first | exact .inl rfl | exact .inr rfl) ?_
                  refine se_addC ?_ ?_
                  · exact se_var 10
                  · refine se_lst ?_
                    refine sa_cons ?_ ?_
                    · refine se_op opd_add ?_ ?_
                      · refine se_slice ?_ ?_ ?_
                        · exact se_var 0
                        · exact so_none
                        · refine so_some ?_
                          exact se_int
                      · refine se_tup ?_
                        refine sa_cons ?_ ?_
                        · exact se_non
                        · refine sa_cons ?_ ?_
                          · exact se_var 7
                          · exact sa_nil
                    · refine sa_cons ?_ ?_
                      · refine se_op opd_add ?_ ?_
                        · refine se_slice ?_ ?_ ?_
                          · exact se_var 0
                          · exact so_none
                          · refine so_some ?_
                            exact se_int
                        · refine se_tup ?_
                          refine sa_cons ?_ ?_
                          · exact se_str
                          · refine sa_cons ?_ ?_
                            · exact se_var 7
                            · exact sa_nil
                      · refine sa_cons ?_ ?_
                        · refine se_op opd_add ?_ ?_
                          · refine se_slice ?_ ?_ ?_
                            · exact se_var 0
                            · exact so_none
                            · refine so_some ?_
                              exact se_int
                          · refine se_tup ?_
                            refine sa_cons ?_ ?_
                            · refine se_tup ?_
                              refine sa_cons ?_ ?_
                              · exact se_str
                              · refine sa_cons ?_ ?_
                                · exact se_int
                                · exact sa_nil
                            · refine sa_cons ?_ ?_
                              · exact se_var 7
                              · exact sa_nil
                        · refine sa_cons ?_ ?_
                          · refine se_op opd_add ?_ ?_
                            · refine se_slice ?_ ?_ ?_
                              · exact se_var 0
                              · exact so_none
                              · refine so_some ?_
                                exact se_int
                            · refine se_tup ?_
                              refine sa_cons ?_ ?_
                              · exact se_non
                              · exact sa_nil
                          · refine sa_cons ?_ ?_
                            · refine se_op opd_add ?_ ?_
                              · refine se_slice ?_ ?_ ?_
                                · exact se_var 0
                                · exact so_none
                                · refine so_some ?_
                                  exact se_int
                              · refine se_tup ?_
                                refine sa_cons ?_ ?_
                                · refine se_callTy cd_tuple (by rfl) z.b_tuple bb_tuple ?_
                                  refine sa_cons ?_ ?_
                                  · exact se_var 7
                                  · exact sa_nil
                                · exact sa_nil
                            · refine sa_cons ?_ ?_
                              · refine se_op opd_add ?_ ?_
                                · refine se_slice ?_ ?_ ?_
                                  · exact se_var 0
                                  · exact so_none
                                  · refine so_some ?_
                                    exact se_int
                                · refine se_tup ?_
                                  refine sa_cons ?_ ?_
                                  · exact se_var 8
                                  · exact sa_nil
                              · exact sa_nil
                · refine sss_cons ?_ ?_
                  · refine ss_set (i := 10) sc__law_wrong_races.nd rfl (by first | exact .inl rfl | exact .inr rfl) ?_
                    refine se_addC ?_ ?_
                    · exact se_var 10
                    · refine se_lc (own := [("special", 11)]) rfl sc__law_wrong_races.nd ?_ (blkOk_by (by rfl)) (fun _ _ _ _ _ => ?_) (fun _ _ _ _ _ => sts_nil) (fun _ _ _ _ _ => ?_)
                      · refine si_any ?_
                        refine se_lst ?_
                        refine sa_cons ?_ ?_
                        · exact se_non
                        · refine sa_cons ?_ ?_
                          · refine se_tup ?_
                            refine sa_cons ?_ ?_
                            · refine se_tup ?_
                              refine sa_cons ?_ ?_
                              · exact se_int
                              · refine sa_cons ?_ ?_
                                · exact se_int
                                · exact sa_nil
                            · exact sa_nil
                          · refine sa_cons ?_ ?_
                            · refine se_tup ?_
                              refine sa_cons ?_ ?_
                              · refine se_tup ?_
                                refine sa_cons ?_ ?_
                                · exact se_int
                                · refine sa_cons ?_ ?_
                                  · exact se_int
                                  · exact sa_nil
                              · refine sa_cons ?_ ?_
                                · refine se_tup ?_
                                  refine sa_cons ?_ ?_
                                  · exact se_str
                                  · exact sa_nil
                                · refine sa_cons ?_ ?_
                                  · exact se_int
                                  · exact sa_nil
                            · refine sa_cons ?_ ?_
                              · refine se_lst ?_
                                refine sa_cons ?_ ?_
                                · refine se_tup ?_
                                  refine sa_cons ?_ ?_
                                  · exact se_int
                                  · refine sa_cons ?_ ?_
                                    · exact se_int
                                    · exact sa_nil
                                · refine sa_cons ?_ ?_
                                  · refine se_tup ?_
                                    refine sa_cons ?_ ?_
                                    · exact se_str
                                    · exact sa_nil
                                  · exact sa_nil
                              · refine sa_cons ?_ ?_
                                · refine se_tup ?_
                                  refine sa_cons ?_ ?_
                                  · refine se_lst ?_
                                    refine sa_cons ?_ ?_
                                    · exact se_int
                                    · refine sa_cons ?_ ?_
                                      · exact se_int
                                      · exact sa_nil
                                  · refine sa_cons ?_ ?_
                                    · refine se_tup ?_
                                      refine sa_cons ?_ ?_
                                      · exact se_str
                                      · exact sa_nil
                                    · exact sa_nil
                                · refine sa_cons ?_ ?_
                                  · refine se_tup ?_
                                    refine sa_cons ?_ ?_
                                    · refine se_tup ?_
                                      refine sa_cons ?_ ?_
                                      · exact se_int
                                      · exact sa_nil
                                    · refine sa_cons ?_ ?_
                                      · refine se_tup ?_
                                        refine sa_cons ?_ ?_
                                        · exact se_str
                                        · exact sa_nil
                                      · exact sa_nil
                                  · refine sa_cons ?_ ?_
                                    · refine se_tup ?_
                                      refine sa_cons ?_ ?_
                                      · refine se_tup ?_
                                        refine sa_cons ?_ ?_
                                        · exact se_int
                                        · refine sa_cons ?_ ?_
                                          · exact se_int
                                          · exact sa_nil
                                      · refine sa_cons ?_ ?_
                                        · refine se_tup ?_
                                          refine sa_cons ?_ ?_
                                          · exact se_str
                                          · exact sa_nil
                                        · exact sa_nil
                                    · exact sa_nil
                      · exact sgw_name (by decide) sc__law_wrong_races.nd (i := 11) rfl (by first | exact .inl rfl | exact .inr rfl)
                      · refine se_op opd_add ?_ ?_
                        · refine se_slice ?_ ?_ ?_
                          · exact se_var 0
                          · exact so_none
                          · refine so_some ?_
                            exact se_int
                        · refine se_tup ?_
                          refine sa_cons ?_ ?_
                          · refine se_lst ?_
                            refine sa_cons ?_ ?_
                            · exact se_var 11
                            · exact sa_nil
                          · exact sa_nil
                  · refine sss_cons ?_ ?_
                    · refine ss_set (i := 10) sc__law_wrong_races.nd rfl (by first | exact .inl rfl | exact .inr rfl) ?_
                      refine se_addC ?_ ?_
                      · exact se_var 10
                      · refine se_lc (own := [("special", 11)]) rfl sc__law_wrong_races.nd ?_ (blkOk_by (by rfl)) (fun _ _ _ _ _ => ?_) (fun _ _ _ _ _ => sts_nil) (fun _ _ _ _ _ => ?_)
                        · refine si_any ?_
                          refine se_lst ?_
                          refine sa_cons ?_ ?_
                          · refine se_tup ?_
                            refine sa_cons ?_ ?_
                            · refine se_tup ?_
                              refine sa_cons ?_ ?_
                              · refine se_op opd_sub ?_ ?_
                                · exact se_int
                                · exact se_int
                              · refine sa_cons ?_ ?_
                                · exact se_int
                                · exact sa_nil
                            · refine sa_cons ?_ ?_
                              · refine se_tup ?_
                                refine sa_cons ?_ ?_
                                · exact se_str
                                · exact sa_nil
                              · exact sa_nil
                          · refine sa_cons ?_ ?_
                            · refine se_tup ?_
                              refine sa_cons ?_ ?_
                              · refine se_tup ?_
                                refine sa_cons ?_ ?_
                                · exact se_bl
                                · refine sa_cons ?_ ?_
                                  · exact se_int
                                  · exact sa_nil
                              · refine sa_cons ?_ ?_
                                · refine se_tup ?_
                                  refine sa_cons ?_ ?_
                                  · exact se_str
                                  · exact sa_nil
                                · exact sa_nil
                            · refine sa_cons ?_ ?_
                              · refine se_tup ?_
                                refine sa_cons ?_ ?_
                                · refine se_tup ?_
                                  refine sa_cons ?_ ?_
                                  · exact se_int
                                  · refine sa_cons ?_ ?_
                                    · exact se_int
                                    · exact sa_nil
                                · refine sa_cons ?_ ?_
                                  · exact se_non
                                  · exact sa_nil
                              · refine sa_cons ?_ ?_
                                · refine se_tup ?_
                                  refine sa_cons ?_ ?_
                                  · refine se_tup ?_
                                    refine sa_cons ?_ ?_
                                    · exact se_int
                                    · refine sa_cons ?_ ?_
                                      · exact se_int
                                      · exact sa_nil
                                  · refine sa_cons ?_ ?_
                                    · refine se_tup ?_
                                      refine sa_cons ?_ ?_
                                      · exact se_str
                                      · exact sa_nil
                                    · exact sa_nil
                                · exact sa_nil
                        · exact sgw_name (by decide) sc__law_wrong_races.nd (i := 11) rfl (by first | exact .inl rfl | exact .inr rfl)
                        · refine se_op opd_add ?_ ?_
                          · refine se_slice ?_ ?_ ?_
                            · exact se_var 0
                            · exact so_none
                            · refine so_some ?_
                              exact se_int
                          · refine se_tup ?_
                            refine sa_cons ?_ ?_
                            · refine se_lst ?_
                              refine sa_cons ?_ ?_
                              · exact se_var 11
                              · exact sa_nil
                            · exact sa_nil
                    · refine sss_one ?_
                      refine ss_ret ?_
                      refine se_op opd_add ?_ ?_
                      · exact se_var 10
                      · refine se_lst ?_
                        refine sa_cons ?_ ?_
                        · refine se_op opd_add ?_ ?_
                          · refine se_slice ?_ ?_ ?_
                            · exact se_var 0
                            · exact so_none
                            · refine so_some ?_
                              exact se_int
                          · refine se_tup ?_
                            refine sa_cons ?_ ?_
                            · refine se_lst ?_
                              refine sa_cons ?_ ?_
                              · refine se_tup ?_
                                refine sa_cons ?_ ?_
                                · refine se_tup ?_
                                  refine sa_cons ?_ ?_
                                  · exact se_int
                                  · refine sa_cons ?_ ?_
                                    · exact se_int
                                    · exact sa_nil
                                · refine sa_cons ?_ ?_
                                  · refine se_tup ?_
                                    refine sa_cons ?_ ?_
                                    · exact se_str
                                    · exact sa_nil
                                  · exact sa_nil
                              · refine sa_cons ?_ ?_
                                · refine se_tup ?_
                                  refine sa_cons ?_ ?_
                                  · refine se_tup ?_
                                    refine sa_cons ?_ ?_
                                    · exact se_int
                                    · refine sa_cons ?_ ?_
                                      · exact se_int
                                      · exact sa_nil
                                  · refine sa_cons ?_ ?_
                                    · refine se_tup ?_
                                      refine sa_cons ?_ ?_
                                      · exact se_str
                                      · exact sa_nil
                                    · exact sa_nil
                                · exact sa_nil
                            · exact sa_nil
                        · refine sa_cons ?_ ?_
                          · refine se_op opd_add ?_ ?_
                            · refine se_slice ?_ ?_ ?_
                              · exact se_var 0
                              · exact so_none
                              · refine so_some ?_
                                exact se_int
                            · refine se_tup ?_
                              refine sa_cons ?_ ?_
                              · refine se_lst ?_
                                refine sa_cons ?_ ?_
                                · refine se_tup ?_
                                  refine sa_cons ?_ ?_
                                  · refine se_tup ?_
                                    refine sa_cons ?_ ?_
                                    · exact se_int
                                    · refine sa_cons ?_ ?_
                                      · exact se_int
                                      · exact sa_nil
                                  · refine sa_cons ?_ ?_
                                    · refine se_tup ?_
                                      refine sa_cons ?_ ?_
                                      · exact se_str
                                      · exact sa_nil
                                    · exact sa_nil
                                · refine sa_cons ?_ ?_
                                  · refine se_tup ?_
                                    refine sa_cons ?_ ?_
                                    · refine se_tup ?_
                                      refine sa_cons ?_ ?_
                                      · exact se_int
                                      · refine sa_cons ?_ ?_
                                        · exact se_int
                                        · exact sa_nil
                                    · refine sa_cons ?_ ?_
                                      · refine se_tup ?_
                                        refine sa_cons ?_ ?_
                                        · exact se_str
                                        · exact sa_nil
                                      · exact sa_nil
                                  · exact sa_nil
                              · exact sa_nil
                          · exact sa_nil

abbrev s__law_plain_right : Stmt := topS 31
theorem sc__law_plain_right : FnScope N__law_plain_right [] (defScope s__law_plain_right) := ⟨rfl, rfl, rfl, by decide +kernel, rfl, by decide +kernel, by decide +kernel⟩
theorem e__law_plain_right {g__law_same g_are_rallies g_is_side g_is_score g_is_order g_is_fraction g_is_chance : GF} (z : Zc K mg) (T : Std K mg "_law_plain_right" s__law_plain_right []) (D__law_same : Def P w K mg base ca "_law_same" ["told", "due"] k g__law_same) (D_are_rallies : Def P w K mg base ca "are_rallies" ["value"] k g_are_rallies) (D_is_side : Def P w K mg base ca "is_side" ["value"] k g_is_side) (D_is_score : Def P w K mg base ca "is_score" ["value"] k g_is_score) (D_is_order : Def P w K mg base ca "is_order" ["value"] k g_is_order) (D_is_fraction : Def P w K mg base ca "is_fraction" ["value"] k g_is_fraction) (D_is_chance : Def P w K mg base ca "is_chance" ["value"] k g_is_chance) : Def P w K mg base ca "_law_plain_right" [] (k + 1) (bodyT N__law_plain_right 0 (b__law_plain_right g__law_same g_are_rallies g_is_side g_is_score g_is_order g_is_fraction g_is_chance)) :=
  def_T T sc__law_plain_right fun f cdv A outer s H E hr hgu tk hp => by
    refine sss_cons ?_ ?_
    · refine ss_set (i := 0) sc__law_plain_right.nd rfl (by first | exact .inl rfl | exact .inr rfl) ?_
      refine se_lst ?_
      refine sa_cons ?_ ?_
      · refine se_lst ?_
        exact sa_nil
      · refine sa_cons ?_ ?_
        · refine se_lst ?_
          refine sa_cons ?_ ?_
          · exact se_int
          · refine sa_cons ?_ ?_
            · exact se_int
            · refine sa_cons ?_ ?_
              · exact se_int
              · exact sa_nil
        · refine sa_cons ?_ ?_
          · refine se_op opd_mul ?_ ?_
            · refine se_lst ?_
              refine sa_cons ?_ ?_
              · exact se_int
              · exact sa_nil
            · exact se_int
          · refine sa_cons ?_ ?_
            · refine se_tup ?_
              refine sa_cons ?_ ?_
              · exact se_int
              · refine sa_cons ?_ ?_
                · exact se_int
                · exact sa_nil
            · refine sa_cons ?_ ?_
              · refine se_lst ?_
                refine sa_cons ?_ ?_
                · exact se_int
                · exact sa_nil
              · refine sa_cons ?_ ?_
                · refine se_lst ?_
                  refine sa_cons ?_ ?_
                  · exact se_bl
                  · exact sa_nil
                · refine sa_cons ?_ ?_
                  · refine se_lst ?_
                    refine sa_cons ?_ ?_
                    · exact se_non
                    · exact sa_nil
                  · refine sa_cons ?_ ?_
                    · exact se_str
                    · refine sa_cons ?_ ?_
                      · exact se_non
                      · refine sa_cons ?_ ?_
                        · exact se_int
                        · exact sa_nil
    · refine sss_cons ?_ ?_
      · refine ss_if ?_ ?_ ?_
        · refine st_not ?_
          refine st_val ?_
          refine se_callN D__law_same hr hgu tk (by rfl) ?_
          refine sa_cons ?_ ?_
          · refine se_lc (own := [("row", 1)]) rfl sc__law_plain_right.nd ?_ (blkOk_by (by rfl)) (fun _ _ _ _ _ => ?_) (fun _ _ _ _ _ => sts_nil) (fun _ _ _ _ _ => ?_)
            · refine si_any ?_
              exact se_var 0
            · exact sgw_name (by decide) sc__law_plain_right.nd (i := 1) rfl (by first | exact .inl rfl | exact .inr rfl)
            · refine se_callN D_are_rallies ?_ ?_ tk0 (by rfl) ?_
              · exact hr
              · exact hgu
              · refine sa_cons ?_ ?_
                · exact se_var 1
                · exact sa_nil
          · refine sa_cons ?_ ?_
            · refine se_op opd_add ?_ ?_
              · refine se_lst ?_
                refine sa_cons ?_ ?_
                · exact se_bl
                · refine sa_cons ?_ ?_
                  · exact se_bl
                  · refine sa_cons ?_ ?_
                    · exact se_bl
                    · exact sa_nil
              · refine se_op opd_mul ?_ ?_
                · refine se_lst ?_
                  refine sa_cons ?_ ?_
                  · exact se_bl
                  · exact sa_nil
                · exact se_int
            · exact sa_nil
        · refine sss_one ?_
          refine ss_ret ?_
          exact se_bl
        · exact sss_nil
      · refine sss_cons ?_ ?_
        · refine ss_if ?_ ?_ ?_
          · refine st_not ?_
            refine st_val ?_
            refine se_callN D__law_same hr hgu tk (by rfl) ?_
            refine sa_cons ?_ ?_
            · refine se_lc (own := [("side", 2)]) rfl sc__law_plain_right.nd ?_ (blkOk_by (by rfl)) (fun _ _ _ _ _ => ?_) (fun _ _ _ _ _ => sts_nil) (fun _ _ _ _ _ => ?_)
              · refine si_any ?_
                refine se_lst ?_
                refine sa_cons ?_ ?_
                · exact se_int
                · refine sa_cons ?_ ?_
                  · exact se_int
                  · refine sa_cons ?_ ?_
                    · exact se_int
                    · refine sa_cons ?_ ?_
                      · refine se_op opd_sub ?_ ?_
                        · exact se_int
                        · exact se_int
                      · refine sa_cons ?_ ?_
                        · exact se_bl
                        · refine sa_cons ?_ ?_
                          · exact se_bl
                          · refine sa_cons ?_ ?_
                            · exact se_non
                            · refine sa_cons ?_ ?_
                              · exact se_str
                              · refine sa_cons ?_ ?_
                                · refine se_tup ?_
                                  refine sa_cons ?_ ?_
                                  · exact se_int
                                  · exact sa_nil
                                · exact sa_nil
              · exact sgw_name (by decide) sc__law_plain_right.nd (i := 2) rfl (by first | exact .inl rfl | exact .inr rfl)
              · refine se_callN D_is_side ?_ ?_ tk0 (by rfl) ?_
                · exact hr
                · exact hgu
                · refine sa_cons ?_ ?_
                  · exact se_var 2
                  · exact sa_nil
            · refine sa_cons ?_ ?_
              · refine se_op opd_add ?_ ?_
                · refine se_lst ?_
                  refine sa_cons ?_ ?_
                  · exact se_bl
                  · refine sa_cons ?_ ?_
                    · exact se_bl
                    · exact sa_nil
                · refine se_op opd_mul ?_ ?_
                  · refine se_lst ?_
                    refine sa_cons ?_ ?_
                    · exact se_bl
                    · exact sa_nil
                  · exact se_int
              · exact sa_nil
          · refine sss_one ?_
            refine ss_ret ?_
            exact se_bl
          · exact sss_nil
        · refine sss_cons ?_ ?_
          · refine ss_set (i := 3) sc__law_plain_right.nd rfl (by first | exact .inl rfl | exact .inr rfl) ?_
            refine se_lst ?_
            refine sa_cons ?_ ?_
            · refine se_tup ?_
              refine sa_cons ?_ ?_
              · exact se_int
              · refine sa_cons ?_ ?_
                · exact se_int
                · exact sa_nil
            · refine sa_cons ?_ ?_
              · refine se_tup ?_
                refine sa_cons ?_ ?_
                · exact se_int
                · refine sa_cons ?_ ?_
                  · refine se_op opd_pow ?_ ?_
                    · exact se_int
                    · exact se_int
                  · exact sa_nil
              · refine sa_cons ?_ ?_
                · refine se_lst ?_
                  refine sa_cons ?_ ?_
                  · exact se_int
                  · refine sa_cons ?_ ?_
                    · exact se_int
                    · exact sa_nil
                · refine sa_cons ?_ ?_
                  · refine se_tup ?_
                    refine sa_cons ?_ ?_
                    · exact se_int
                    · exact sa_nil
                  · refine sa_cons ?_ ?_
                    · refine se_tup ?_
                      refine sa_cons ?_ ?_
                      · exact se_int
                      · refine sa_cons ?_ ?_
                        · exact se_int
                        · refine sa_cons ?_ ?_
                          · exact se_int
                          · exact sa_nil
                    · refine sa_cons ?_ ?_
                      · refine se_tup ?_
                        refine sa_cons ?_ ?_
                        · refine se_op opd_sub ?_ ?_
                          · exact se_int
                          · exact se_int
                        · refine sa_cons ?_ ?_
                          · exact se_int
                          · exact sa_nil
                      · refine sa_cons ?_ ?_
                        · refine se_tup ?_
                          refine sa_cons ?_ ?_
                          · exact se_bl
                          · refine sa_cons ?_ ?_
                            · exact se_int
                            · exact sa_nil
                        · refine sa_cons ?_ ?_
                          · refine se_tup ?_
                            refine sa_cons ?_ ?_
                            · exact se_str
                            · refine sa_cons ?_ ?_
                              · exact se_int
                              · exact sa_nil
                          · refine sa_cons ?_ ?_
                            · exact se_non
                            · exact sa_nil
          · refine sss_cons ?_ ?_
            · refine ss_if ?_ ?_ ?_
              · refine st_not ?_
                refine st_val ?_
                refine se_callN D__law_same hr hgu tk (by rfl) ?_
                refine sa_cons ?_ ?_
                · refine se_lc (own := [("score", 4)]) rfl sc__law_plain_right.nd ?_ (blkOk_by (by rfl)) (fun _ _ _ _ _ => ?_) (fun _ _ _ _ _ => sts_nil) (fun _ _ _ _ _ => ?_)
                  · refine si_any ?_
                    exact se_var 3
                  · exact sgw_name (by decide) sc__law_plain_right.nd (i := 4) rfl (by first | exact .inl rfl | exact .inr rfl)
                  · refine se_callN D_is_score ?_ ?_ tk0 (by rfl) ?_
                    · exact hr
                    · exact hgu
                    · refine sa_cons ?_ ?_
                      · exact se_var 4
                      · exact sa_nil
                · refine sa_cons ?_ ?_
                  · refine se_op opd_add ?_ ?_
                    · refine se_lst ?_
                      refine sa_cons ?_ ?_
                      · exact se_bl
                      · refine sa_cons ?_ ?_
                        · exact se_bl
                        · exact sa_nil
                    · refine se_op opd_mul ?_ ?_
                      · refine se_lst ?_
                        refine sa_cons ?_ ?_
                        · exact se_bl
                        · exact sa_nil
                      · exact se_int
                  · exact sa_nil
              · refine sss_one ?_
                refine ss_ret ?_
                exact se_bl
              · exact sss_nil
            · refine sss_cons ?_ ?_
              · refine ss_set (i := 5) sc__law_plain_right.nd rfl (by first | exact .inl rfl | exact .inr rfl) ?_
                refine se_lst ?_
                refine sa_cons ?_ ?_
                · refine se_tup ?_
                  refine sa_cons ?_ ?_
                  · exact se_str
                  · exact sa_nil
                · refine sa_cons ?_ ?_
                  · refine se_tup ?_
                    refine sa_cons ?_ ?_
                    · exact se_str
                    · exact sa_nil
                  · refine sa_cons ?_ ?_
                    · refine se_tup ?_
                      refine sa_cons ?_ ?_
                      · exact se_str
                      · exact sa_nil
                    · refine sa_cons ?_ ?_
                      · refine se_tup ?_
                        refine sa_cons ?_ ?_
                        · exact se_str
                        · exact sa_nil
                      · refine sa_cons ?_ ?_
                        · refine se_tup ?_
                          refine sa_cons ?_ ?_
                          · exact se_str
                          · refine sa_cons ?_ ?_
                            · refine se_lst ?_
                              refine sa_cons ?_ ?_
                              · exact se_int
                              · exact sa_nil
                            · exact sa_nil
                        · refine sa_cons ?_ ?_
                          · refine se_tup ?_
                            refine sa_cons ?_ ?_
                            · exact se_str
                            · refine sa_cons ?_ ?_
                              · refine se_lst ?_
                                refine sa_cons ?_ ?_
                                · exact se_int
                                · refine sa_cons ?_ ?_
                                  · exact se_int
                                  · refine sa_cons ?_ ?_
                                    · exact se_int
                                    · refine sa_cons ?_ ?_
                                      · exact se_int
                                      · refine sa_cons ?_ ?_
                                        · exact se_int
                                        · refine sa_cons ?_ ?_
                                          · exact se_int
                                          · refine sa_cons ?_ ?_
                                            · exact se_int
                                            · refine sa_cons ?_ ?_
                                              · exact se_int
                                              · exact sa_nil
                              · exact sa_nil
                          · refine sa_cons ?_ ?_
                            · refine se_tup ?_
                              refine sa_cons ?_ ?_
                              · exact se_str
                              · refine sa_cons ?_ ?_
                                · refine se_lst ?_
                                  exact sa_nil
                                · exact sa_nil
                            · refine sa_cons ?_ ?_
                              · refine se_tup ?_
                                refine sa_cons ?_ ?_
                                · exact se_str
                                · refine sa_cons ?_ ?_
                                  · refine se_op opd_mul ?_ ?_
                                    · refine se_lst ?_
                                      refine sa_cons ?_ ?_
                                      · exact se_int
                                      · exact sa_nil
                                    · exact se_int
                                  · exact sa_nil
                              · refine sa_cons ?_ ?_
                                · refine se_tup ?_
                                  refine sa_cons ?_ ?_
                                  · exact se_str
                                  · refine sa_cons ?_ ?_
                                    · refine se_tup ?_
                                      refine sa_cons ?_ ?_
                                      · exact se_int
                                      · refine sa_cons ?_ ?_
                                        · exact se_int
                                        · exact sa_nil
                                    · exact sa_nil
                                · refine sa_cons ?_ ?_
                                  · refine se_tup ?_
                                    refine sa_cons ?_ ?_
                                    · exact se_str
                                    · refine sa_cons ?_ ?_
                                      · refine se_lst ?_
                                        refine sa_cons ?_ ?_
                                        · exact se_bl
                                        · exact sa_nil
                                      · exact sa_nil
                                  · refine sa_cons ?_ ?_
                                    · refine se_tup ?_
                                      refine sa_cons ?_ ?_
                                      · exact se_str
                                      · refine sa_cons ?_ ?_
                                        · refine se_lst ?_
                                          refine sa_cons ?_ ?_
                                          · exact se_int
                                          · exact sa_nil
                                        · exact sa_nil
                                    · refine sa_cons ?_ ?_
                                      · refine se_tup ?_
                                        refine sa_cons ?_ ?_
                                        · exact se_str
                                        · exact sa_nil
                                      · exact sa_nil
              · refine sss_cons ?_ ?_
                · refine ss_set (i := 5) sc__law_plain_right.nd rfl (by first | exact .inl rfl | exact .inr rfl) ?_
                  refine se_op opd_add ?_ ?_
                  · exact se_var 5
                  · refine se_lst ?_
                    refine sa_cons ?_ ?_
                    · refine se_tup ?_
                      refine sa_cons ?_ ?_
                      · exact se_str
                      · refine sa_cons ?_ ?_
                        · refine se_lst ?_
                          refine sa_cons ?_ ?_
                          · exact se_int
                          · exact sa_nil
                        · exact sa_nil
                    · refine sa_cons ?_ ?_
                      · refine se_lst ?_
                        refine sa_cons ?_ ?_
                        · exact se_str
                        · exact sa_nil
                      · refine sa_cons ?_ ?_
                        · exact se_str
                        · refine sa_cons ?_ ?_
                          · exact se_non
                          · refine sa_cons ?_ ?_
                            · refine se_tup ?_
                              refine sa_cons ?_ ?_
                              · exact se_str
                              · exact sa_nil
                            · refine sa_cons ?_ ?_
                              · refine se_tup ?_
                                refine sa_cons ?_ ?_
                                · exact se_int
                                · exact sa_nil
                              · refine sa_cons ?_ ?_
                                · refine se_tup ?_
                                  exact sa_nil
                                · exact sa_nil
                · refine sss_cons ?_ ?_
                  · refine ss_if ?_ ?_ ?_
                    · refine st_not ?_
                      refine st_val ?_
                      refine se_callN D__law_same hr hgu tk (by rfl) ?_
                      refine sa_cons ?_ ?_
                      · refine se_lc (own := [("order", 6)]) rfl sc__law_plain_right.nd ?_ (blkOk_by (by rfl)) (fun _ _ _ _ _ => ?_) (fun _ _ _ _ _ => sts_nil) (fun _ _ _ _ _ => ?_)
                        · refine si_any ?_
                          exact se_var 5
                        · exact sgw_name (by decide) sc__law_plain_right.nd (i := 6) rfl (by first | exact .inl rfl | exact .inr rfl)
                        · refine se_callN D_is_order ?_ ?_ tk0 (by rfl) ?_
                          · exact hr
                          · exact hgu
                          · refine sa_cons ?_ ?_
                            · exact se_var 6
                            · exact sa_nil
                      · refine sa_cons ?_ ?_
                        · refine se_op opd_add ?_ ?_
                          · refine se_op opd_mul ?_ ?_
                            · refine se_lst ?_
                              refine sa_cons ?_ ?_
                              · exact se_bl
                              · exact sa_nil
                            · exact se_int
                          · refine se_op opd_mul ?_ ?_
                            · refine se_lst ?_
                              refine sa_cons ?_ ?_
                              · exact se_bl
                              · exact sa_nil
                            · exact se_int
                        · exact sa_nil
                    · refine sss_one ?_
                      refine ss_ret ?_
                      exact se_bl
                    · exact sss_nil
                  · refine sss_cons ?_ ?_
                    · refine ss_set (i := 7) sc__law_plain_right.nd rfl (by first | exact .inl rfl | exact .inr rfl) ?_
                      refine se_lst ?_
                      refine sa_cons ?_ ?_
                      · refine se_tup ?_
                        refine sa_cons ?_ ?_
                        · exact se_int
                        · refine sa_cons ?_ ?_
                          · exact se_int
                          · exact sa_nil
                      · refine sa_cons ?_ ?_
                        · refine se_tup ?_
                          refine sa_cons ?_ ?_
                          · exact se_int
                          · refine sa_cons ?_ ?_
                            · exact se_int
                            · exact sa_nil
                        · refine sa_cons ?_ ?_
                          · refine se_tup ?_
                            refine sa_cons ?_ ?_
                            · refine se_op opd_sub ?_ ?_
                              · exact se_int
                              · exact se_int
                            · refine sa_cons ?_ ?_
                              · exact se_int
                              · exact sa_nil
                          · refine sa_cons ?_ ?_
                            · refine se_tup ?_
                              refine sa_cons ?_ ?_
                              · exact se_int
                              · refine sa_cons ?_ ?_
                                · exact se_int
                                · exact sa_nil
                            · refine sa_cons ?_ ?_
                              · refine se_tup ?_
                                refine sa_cons ?_ ?_
                                · exact se_int
                                · refine sa_cons ?_ ?_
                                  · exact se_int
                                  · exact sa_nil
                              · refine sa_cons ?_ ?_
                                · refine se_tup ?_
                                  refine sa_cons ?_ ?_
                                  · exact se_int
                                  · refine sa_cons ?_ ?_
                                    · refine se_op opd_sub ?_ ?_
                                      · exact se_int
                                      · exact se_int
                                    · exact sa_nil
                                · refine sa_cons ?_ ?_
                                  · refine se_lst ?_
                                    refine sa_cons ?_ ?_
                                    · exact se_int
                                    · refine sa_cons ?_ ?_
                                      · exact se_int
                                      · exact sa_nil
                                  · refine sa_cons ?_ ?_
                                    · refine se_tup ?_
                                      refine sa_cons ?_ ?_
                                      · exact se_int
                                      · exact sa_nil
                                    · refine sa_cons ?_ ?_
                                      · refine se_tup ?_
                                        refine sa_cons ?_ ?_
                                        · exact se_int
                                        · refine sa_cons ?_ ?_
                                          · exact se_int
                                          · refine sa_cons ?_ ?_
                                            · exact se_int
                                            · exact sa_nil
                                      · refine sa_cons ?_ ?_
                                        · refine se_tup ?_
                                          refine sa_cons ?_ ?_
                                          · exact se_bl
                                          · refine sa_cons ?_ ?_
                                            · exact se_int
                                            · exact sa_nil
                                        · refine sa_cons ?_ ?_
                                          · refine se_tup ?_
                                            refine sa_cons ?_ ?_
                                            · exact se_int
                                            · refine sa_cons ?_ ?_
                                              · exact se_bl
                                              · exact sa_nil
                                          · refine sa_cons ?_ ?_
                                            · exact se_non
                                            · refine sa_cons ?_ ?_
                                              · exact se_int
                                              · exact sa_nil
                    · refine sss_cons ?_ ?_
                      · refine ss_if ?_ ?_ ?_
                        · refine st_not ?_
                          refine st_val ?_
                          refine se_callN D__law_same hr hgu tk (by rfl) ?_
                          refine sa_cons ?_ ?_
                          · refine se_lc (own := [("part", 8)]) rfl sc__law_plain_right.nd ?_ (blkOk_by (by rfl)) (fun _ _ _ _ _ => ?_) (fun _ _ _ _ _ => sts_nil) (fun _ _ _ _ _ => ?_)
                            · refine si_any ?_
                              exact se_var 7
                            · exact sgw_name (by decide) sc__law_plain_right.nd (i := 8) rfl (by first | exact .inl rfl | exact .inr rfl)
                            · refine se_callN D_is_fraction ?_ ?_ tk0 (by rfl) ?_
                              · exact hr
                              · exact hgu
                              · refine sa_cons ?_ ?_
                                · exact se_var 8
                                · exact sa_nil
                          · refine sa_cons ?_ ?_
                            · refine se_op opd_add ?_ ?_
                              · refine se_op opd_mul ?_ ?_
                                · refine se_lst ?_
                                  refine sa_cons ?_ ?_
                                  · exact se_bl
                                  · exact sa_nil
                                · exact se_int
                              · refine se_op opd_mul ?_ ?_
                                · refine se_lst ?_
                                  refine sa_cons ?_ ?_
                                  · exact se_bl
                                  · exact sa_nil
                                · exact se_int
                            · exact sa_nil
                        · refine sss_one ?_
                          refine ss_ret ?_
                          exact se_bl
                        · exact sss_nil
                      · refine sss_cons ?_ ?_
                        · refine ss_set (i := 9) sc__law_plain_right.nd rfl (by first | exact .inl rfl | exact .inr rfl) ?_
                          refine se_lst ?_
                          refine sa_cons ?_ ?_
                          · refine se_tup ?_
                            refine sa_cons ?_ ?_
                            · exact se_int
                            · refine sa_cons ?_ ?_
                              · exact se_int
                              · exact sa_nil
                          · refine sa_cons ?_ ?_
                            · refine se_tup ?_
                              refine sa_cons ?_ ?_
                              · exact se_int
                              · refine sa_cons ?_ ?_
                                · refine se_op opd_pow ?_ ?_
                                  · exact se_int
                                  · exact se_int
                                · exact sa_nil
                            · refine sa_cons ?_ ?_
                              · refine se_tup ?_
                                refine sa_cons ?_ ?_
                                · exact se_int
                                · refine sa_cons ?_ ?_
                                  · exact se_int
                                  · exact sa_nil
                              · refine sa_cons ?_ ?_
                                · refine se_tup ?_
                                  refine sa_cons ?_ ?_
                                  · exact se_int
                                  · refine sa_cons ?_ ?_
                                    · exact se_int
                                    · exact sa_nil
                                · refine sa_cons ?_ ?_
                                  · refine se_tup ?_
                                    refine sa_cons ?_ ?_
                                    · exact se_int
                                    · refine sa_cons ?_ ?_
                                      · exact se_int
                                      · exact sa_nil
                                  · refine sa_cons ?_ ?_
                                    · refine se_tup ?_
                                      refine sa_cons ?_ ?_
                                      · refine se_op opd_sub ?_ ?_
                                        · exact se_int
                                        · exact se_int
                                      · refine sa_cons ?_ ?_
                                        · exact se_int
                                        · exact sa_nil
                                    · refine sa_cons ?_ ?_
                                      · refine se_tup ?_
                                        refine sa_cons ?_ ?_
                                        · exact se_int
                                        · refine sa_cons ?_ ?_
                                          · exact se_int
                                          · exact sa_nil
                                      · refine sa_cons ?_ ?_
                                        · exact se_non
                                        · exact sa_nil
                        · refine sss_one ?_
                          refine ss_ret ?_
                          refine se_callN D__law_same hr hgu tk (by rfl) ?_
                          refine sa_cons ?_ ?_
                          · refine se_lc (own := [("part", 8)]) rfl sc__law_plain_right.nd ?_ (blkOk_by (by rfl)) (fun _ _ _ _ _ => ?_) (fun _ _ _ _ _ => sts_nil) (fun _ _ _ _ _ => ?_)
                            · refine si_any ?_
                              exact se_var 9
                            · exact sgw_name (by decide) sc__law_plain_right.nd (i := 8) rfl (by first | exact .inl rfl | exact .inr rfl)
                            · refine se_callN D_is_chance ?_ ?_ tk0 (by rfl) ?_
                              · exact hr
                              · exact hgu
                              · refine sa_cons ?_ ?_
                                · exact se_var 8
                                · exact sa_nil
                          · refine sa_cons ?_ ?_
                            · refine se_op opd_add ?_ ?_
                              · refine se_lst ?_
                                refine sa_cons ?_ ?_
                                · exact se_bl
                                · refine sa_cons ?_ ?_
                                  · exact se_bl
                                  · exact sa_nil
                              · refine se_op opd_mul ?_ ?_
                                · refine se_lst ?_
                                  refine sa_cons ?_ ?_
                                  · exact se_bl
                                  · exact sa_nil
                                · exact se_int
                            · exact sa_nil

abbrev s_law : Stmt := topS 32
theorem sc_law : FnScope N_law ["script"] (defScope s_law) := ⟨rfl, rfl, rfl, by decide +kernel, rfl, by decide +kernel, by decide +kernel⟩
theorem e_law {g__law_generator g__law_random g__law_nested g__law_rule g_is_rule g__law_wrong_races g__law_same g__law_plain_right : GF} (z : Zc K mg) {f : Addr} {fd : FuncData} (F : Fun K "law" "law" s_law f fd) (D__law_generator : Def P w K mg base ca "_law_generator" ["script", "index"] k g__law_generator) (D__law_random : Def P w K mg base ca "_law_random" ["generator", "bound"] k g__law_random) (D__law_nested : Def P w K mg base ca "_law_nested" ["generator", "deep"] k g__law_nested) (D__law_rule : Def P w K mg base ca "_law_rule" ["generator", "deep", "most"] k g__law_rule) (D_is_rule : Def P w K mg base ca "is_rule" ["value"] k g_is_rule) (D__law_wrong_races : Def P w K mg base ca "_law_wrong_races" ["rule"] k g__law_wrong_races) (D__law_same : Def P w K mg base ca "_law_same" ["told", "due"] k g__law_same) (D__law_plain_right : Def P w K mg base ca "_law_plain_right" [] k g__law_plain_right) : FnG P w K mg base (k + 1) f fd ["script"] (spD K ca 1 (bodyD N_law 1 (b_law g__law_generator g__law_random g__law_nested g__law_rule g_is_rule g__law_wrong_races g__law_same g__law_plain_right))) :=
  law_D F sc_law fun cdv A outer s H E hr hgu tk hp => by
    refine sss_cons ?_ ?_
    · refine ss_set (i := 1) sc_law.nd rfl (by first | exact .inl rfl | exact .inr rfl) ?_
      refine se_callN D__law_generator hr hgu tk (by rfl) ?_
      refine sa_cons ?_ ?_
      · exact se_var 0
      · refine sa_cons ?_ ?_
        · exact se_int
        · exact sa_nil
    · refine sss_cons ?_ ?_
      · refine ss_set (i := 2) sc_law.nd rfl (by first | exact .inl rfl | exact .inr rfl) ?_
        refine se_op opd_add ?_ ?_
        · exact se_int
        · refine se_callN D__law_random hr hgu tk (by rfl) ?_
          refine sa_cons ?_ ?_
          · exact se_var 1
          · refine sa_cons ?_ ?_
            · exact se_int
            · exact sa_nil
      · refine sss_cons ?_ ?_
        · refine ss_par (i := 3) (j := 4) rfl sc_law.nd rfl rfl (by decide) ?_
          refine sa_cons ?_ ?_
          · refine se_callN D__law_nested hr hgu tk (by rfl) ?_
            refine sa_cons ?_ ?_
            · exact se_var 1
            · refine sa_cons ?_ ?_
              · exact se_var 2
              · exact sa_nil
          · refine sa_cons ?_ sa_nil
            refine se_callN D__law_rule hr hgu tk (by rfl) ?_
            refine sa_cons ?_ ?_
            · exact se_var 1
            · refine sa_cons ?_ ?_
              · refine se_op opd_add ?_ ?_
                · exact se_int
                · refine se_callN D__law_random hr hgu tk (by rfl) ?_
                  refine sa_cons ?_ ?_
                  · exact se_var 1
                  · refine sa_cons ?_ ?_
                    · exact se_int
                    · exact sa_nil
              · refine sa_cons ?_ ?_
                · exact se_int
                · exact sa_nil
        · refine sss_cons ?_ ?_
          · refine ss_set (i := 5) sc_law.nd rfl (by first | exact .inl rfl | exact .inr rfl) ?_
            refine se_callB (cd_repr hgu (hu65 hr)) (by rfl) z.b_repr bb_repr ?_
            refine sa_cons ?_ ?_
            · refine se_lst ?_
              refine sa_cons ?_ ?_
              · exact se_var 3
              · refine sa_cons ?_ ?_
                · exact se_var 4
                · exact sa_nil
            · exact sa_nil
          · refine sss_cons ?_ ?_
            · refine ss_if ?_ ?_ ?_
              · refine SW.st ?_
                refine sw_or ?_ ?_
                · refine st_cmp opd_isnot ?_ ?_ (nomark _)
                  · refine se_callN D_is_rule hr hgu tk (by rfl) ?_
                    refine sa_cons ?_ ?_
                    · exact se_var 3
                    · exact sa_nil
                  · exact se_bl
                · refine sw_or ?_ ?_
                  · refine st_cmp opd_isnot ?_ ?_ (nomark _)
                    · refine se_callN D_is_rule hr hgu tk (by rfl) ?_
                      refine sa_cons ?_ ?_
                      · exact se_var 4
                      · exact sa_nil
                    · exact se_bl
                  · refine sw_or ?_ ?_
                    · refine st_cmp opd_isnot ?_ ?_ (nomark _)
                      · refine se_callN D_is_rule hr hgu tk (by rfl) ?_
                        refine sa_cons ?_ ?_
                        · refine se_tup ?_
                          refine sa_cons ?_ ?_
                          · exact se_str
                          · exact sa_nil
                        · exact sa_nil
                      · exact se_bl
                    · refine sw_or1 ?_
                      refine st_cmp opd_isnot ?_ ?_ (nomark _)
                      · refine se_callN D_is_rule hr hgu tk (by rfl) ?_
                        refine sa_cons ?_ ?_
                        · refine se_tup ?_
                          refine sa_cons ?_ ?_
                          · exact se_str
                          · exact sa_nil
                        · exact sa_nil
                      · exact se_bl
              · refine sss_one ?_
                refine ss_ret ?_
                exact se_bl
              · exact sss_nil
            · refine sss_cons ?_ ?_
              · refine ss_if ?_ ?_ ?_
                · refine st_cmp (opd_ne hr.units) ?_ ?_ (nomark _)
                  · refine se_lc (own := [("bad", 6)]) rfl sc_law.nd ?_ (blkOk_by (by rfl)) (fun _ _ _ _ _ => ?_) (fun _ _ _ _ _ => ?_) (fun _ _ _ _ _ => ?_)
                    · refine si_any ?_
                      refine se_callN D__law_wrong_races hr hgu tk (by rfl) ?_
                      refine sa_cons ?_ ?_
                      · exact se_var 3
                      · exact sa_nil
                    · exact sgw_name (by decide) sc_law.nd (i := 6) rfl (by first | exact .inl rfl | exact .inr rfl)
                    · refine sts_one ?_
                      refine st_cmp opd_isnot ?_ ?_ (nomark _)
                      · refine se_callN D_is_rule ?_ ?_ tk0 (by rfl) ?_
                        · exact hr
                        · exact hgu
                        · refine sa_cons ?_ ?_
                          · exact se_var 6
                          · exact sa_nil
                      · exact se_bl
                    · exact se_var 6
                  · refine se_lst ?_
                    exact sa_nil
                · refine sss_one ?_
                  refine ss_ret ?_
                  exact se_bl
                · exact sss_nil
              · refine sss_cons ?_ ?_
                · refine ss_set (i := 7) sc_law.nd rfl (by first | exact .inl rfl | exact .inr rfl) ?_
                  exact se_var 3
                · refine sss_cons ?_ ?_
                  · refine ss_for hp rfl ?_ ?_ ?_
                    · refine si_range1 (by rfl) z.b_range ?_
                      refine sa_cons ?_ ?_
                      · exact se_int
                      · exact sa_nil
                    · exact sg_name sc_law.nd (i := 8) rfl (by first | exact .inl rfl | exact .inr rfl)
                    · refine sss_cons ?_ ?_
                      · refine ss_set (i := 7) sc_law.nd rfl (by first | exact .inl rfl | exact .inr rfl) ?_
                        refine se_tup ?_
                        refine sa_cons ?_ ?_
                        · exact se_str
                        · refine sa_cons ?_ ?_
                          · exact se_int
                          · refine sa_cons ?_ ?_
                            · exact se_int
                            · refine sa_cons ?_ ?_
                              · exact se_non
                              · refine sa_cons ?_ ?_
                                · refine se_tup ?_
                                  refine sa_cons ?_ ?_
                                  · exact se_str
                                  · exact sa_nil
                                · refine sa_cons ?_ ?_
                                  · exact se_var 7
                                  · refine sa_cons ?_ ?_
                                    · refine se_lst ?_
                                      exact sa_nil
                                    · exact sa_nil
                      · refine sss_one ?_
                        refine ss_if ?_ ?_ ?_
                        · refine st_not ?_
                          refine st_val ?_
                          refine se_callN D__law_same hr hgu tk (by rfl) ?_
                          refine sa_cons ?_ ?_
                          · refine se_callN D_is_rule hr hgu tk (by rfl) ?_
                            refine sa_cons ?_ ?_
                            · exact se_var 7
                            · exact sa_nil
                          · refine sa_cons ?_ ?_
                            · refine se_cmp opd_le ?_ ?_ (nomark _)
                              · refine se_op opd_add ?_ ?_
                                · refine se_op opd_add ?_ ?_
                                  · exact se_var 2
                                  · exact se_var 8
                                · exact se_int
                              · exact se_int
                            · exact sa_nil
                        · refine sss_one ?_
                          refine ss_ret ?_
                          exact se_bl
                        · exact sss_nil
                  · refine sss_cons ?_ ?_
                    · refine ss_if ?_ ?_ ?_
                      · refine st_cmp (opd_ne hr.units) ?_ ?_ (nomark _)
                        · refine se_lc (own := [("bad", 6)]) rfl sc_law.nd ?_ (blkOk_by (by rfl)) (fun _ _ _ _ _ => ?_) (fun _ _ _ _ _ => ?_) (fun _ _ _ _ _ => ?_)
                          · refine si_any ?_
                            refine se_lst ?_
                            refine sa_cons ?_ ?_
                            · exact se_non
                            · refine sa_cons ?_ ?_
                              · exact se_int
                              · refine sa_cons ?_ ?_
                                · exact se_str
                                · refine sa_cons ?_ ?_
                                  · refine se_lst ?_
                                    refine sa_cons ?_ ?_
                                    · exact se_str
                                    · exact sa_nil
                                  · refine sa_cons ?_ ?_
                                    · refine se_tup ?_
                                      refine sa_cons ?_ ?_
                                      · exact se_str
                                      · refine sa_cons ?_ ?_
                                        · exact se_int
                                        · exact sa_nil
                                    · refine sa_cons ?_ ?_
                                      · refine se_tup ?_
                                        refine sa_cons ?_ ?_
                                        · exact se_str
                                        · exact sa_nil
                                      · refine sa_cons ?_ ?_
                                        · refine se_tup ?_
                                          exact sa_nil
                                        · refine sa_cons ?_ ?_
                                          · refine se_tup ?_
                                            refine sa_cons ?_ ?_
                                            · exact se_non
                                            · exact sa_nil
                                          · refine sa_cons ?_ ?_
                                            · exact se_dict0
                                            · exact sa_nil
                          · exact sgw_name (by decide) sc_law.nd (i := 6) rfl (by first | exact .inl rfl | exact .inr rfl)
                          · refine sts_one ?_
                            refine st_cmp opd_isnot ?_ ?_ (nomark _)
                            · refine se_callN D_is_rule ?_ ?_ tk0 (by rfl) ?_
                              · exact hr
                              · exact hgu
                              · refine sa_cons ?_ ?_
                                · exact se_var 6
                                · exact sa_nil
                            · exact se_bl
                          · exact se_var 6
                        · refine se_lst ?_
                          exact sa_nil
                      · refine sss_one ?_
                        refine ss_ret ?_
                        exact se_bl
                      · exact sss_nil
                    · refine sss_cons ?_ ?_
                      · refine ss_set (i := 9) sc_law.nd rfl (by first | exact .inl rfl | exact .inr rfl) ?_
                        refine se_tup ?_
                        refine sa_cons ?_ ?_
                        · exact se_str
                        · refine sa_cons ?_ ?_
                          · exact se_int
                          · refine sa_cons ?_ ?_
                            · exact se_int
                            · refine sa_cons ?_ ?_
                              · exact se_non
                              · refine sa_cons ?_ ?_
                                · refine se_tup ?_
                                  refine sa_cons ?_ ?_
                                  · exact se_str
                                  · exact sa_nil
                                · refine sa_cons ?_ ?_
                                  · refine se_tup ?_
                                    refine sa_cons ?_ ?_
                                    · exact se_str
                                    · exact sa_nil
                                  · refine sa_cons ?_ ?_
                                    · refine se_lst ?_
                                      refine sa_cons ?_ ?_
                                      · refine se_tup ?_
                                        refine sa_cons ?_ ?_
                                        · refine se_tup ?_
                                          refine sa_cons ?_ ?_
                                          · exact se_int
                                          · refine sa_cons ?_ ?_
                                            · exact se_int
                                            · exact sa_nil
                                        · refine sa_cons ?_ ?_
                                          · refine se_tup ?_
                                            refine sa_cons ?_ ?_
                                            · exact se_str
                                            · refine sa_cons ?_ ?_
                                              · exact se_int
                                              · refine sa_cons ?_ ?_
                                                · exact se_int
                                                · refine sa_cons ?_ ?_
                                                  · exact se_non
                                                  · refine sa_cons ?_ ?_
                                                    · refine se_tup ?_
                                                      refine sa_cons ?_ ?_
                                                      · exact se_str
                                                      · exact sa_nil
                                                    · refine sa_cons ?_ ?_
                                                      · refine se_tup ?_
                                                        refine sa_cons ?_ ?_
                                                        · exact se_str
                                                        · refine sa_cons ?_ ?_
                                                          · exact se_int
                                                          · refine sa_cons ?_ ?_
                                                            · exact se_int
                                                            · refine sa_cons ?_ ?_
                                                              · exact se_non
                                                              · refine sa_cons ?_ ?_
                                                                · refine se_tup ?_
                                                                  refine sa_cons ?_ ?_
                                                                  · exact se_str
                                                                  · exact sa_nil
                                                                · refine sa_cons ?_ ?_
                                                                  · refine se_tup ?_
                                                                    refine sa_cons ?_ ?_
                                                                    · exact se_str
                                                                    · refine sa_cons ?_ ?_
                                                                      · exact se_int
                                                                      · refine sa_cons ?_ ?_
                                                                        · exact se_int
                                                                        · refine sa_cons ?_ ?_
                                                                          · exact se_non
                                                                          · refine sa_cons ?_ ?_
                                                                            · refine se_tup ?_
                                                                              refine sa_cons ?_ ?_
                                                                              · exact se_str
                                                                              · exact sa_nil
                                                                            · refine sa_cons ?_ ?_
                                                                              · refine se_tup ?_
                                                                                refine sa_cons ?_ ?_
                                                                                · exact se_str
                                                                                · exact sa_nil
                                                                              · refine sa_cons ?_ ?_
                                                                                · refine se_lst ?_
                                                                                  exact sa_nil
                                                                                · exact sa_nil
                                                                  · refine sa_cons ?_ ?_
                                                                    · refine se_lst ?_
                                                                      exact sa_nil
                                                                    · exact sa_nil
                                                      · refine sa_cons ?_ ?_
                                                        · refine se_lst ?_
                                                          exact sa_nil
                                                        · exact sa_nil
                                          · exact sa_nil
                                      · exact sa_nil
                                    · exact sa_nil
                      · refine sss_cons ?_ ?_
                        · refine ss_set (i := 10) sc_law.nd rfl (by first | exact .inl rfl | exact .inr rfl) ?_
                          refine se_tup ?_
                          refine sa_cons ?_ ?_
                          · exact se_str
                          · refine sa_cons ?_ ?_
                            · exact se_int
                            · refine sa_cons ?_ ?_
                              · exact se_int
                              · refine sa_cons ?_ ?_
                                · exact se_int
                                · refine sa_cons ?_ ?_
                                  · refine se_tup ?_
                                    refine sa_cons ?_ ?_
                                    · exact se_str
                                    · refine sa_cons ?_ ?_
                                      · refine se_op opd_mul ?_ ?_
                                        · refine se_lst ?_
                                          refine sa_cons ?_ ?_
                                          · exact se_int
                                          · exact sa_nil
                                        · exact se_int
                                      · exact sa_nil
                                  · refine sa_cons ?_ ?_
                                    · refine se_tup ?_
                                      refine sa_cons ?_ ?_
                                      · exact se_str
                                      · exact sa_nil
                                    · refine sa_cons ?_ ?_
                                      · refine se_lc (own := [("at", 11)]) rfl sc_law.nd ?_ (blkOk_by (by rfl)) (fun _ _ _ _ _ => ?_) (fun _ _ _ _ _ => sts_nil) (fun _ _ _ _ _ => ?_)
                                        · refine si_range1 (by rfl) z.b_range ?_
                                          refine sa_cons ?_ ?_
                                          · exact se_int
                                          · exact sa_nil
                                        · exact sgw_name (by decide) sc_law.nd (i := 11) rfl (by first | exact .inl rfl | exact .inr rfl)
                                        · refine se_tup ?_
                                          refine sa_cons ?_ ?_
                                          · refine se_tup ?_
                                            refine sa_cons ?_ ?_
                                            · exact se_var 11
                                            · refine sa_cons ?_ ?_
                                              · exact se_int
                                              · exact sa_nil
                                          · refine sa_cons ?_ ?_
                                            · refine se_tup ?_
                                              refine sa_cons ?_ ?_
                                              · exact se_str
                                              · exact sa_nil
                                            · exact sa_nil
                                      · exact sa_nil
                        · refine sss_cons ?_ ?_
                          · refine ss_if ?_ ?_ ?_
                            · refine st_not ?_
                              refine st_val ?_
                              refine se_callN D__law_same hr hgu tk (by rfl) ?_
                              refine sa_cons ?_ ?_
                              · refine se_lst ?_
                                refine sa_cons ?_ ?_
                                · refine se_callN D_is_rule hr hgu tk (by rfl) ?_
                                  refine sa_cons ?_ ?_
                                  · exact se_var 9
                                  · exact sa_nil
                                · refine sa_cons ?_ ?_
                                  · refine se_callN D_is_rule hr hgu tk (by rfl) ?_
                                    refine sa_cons ?_ ?_
                                    · refine se_tup ?_
                                      refine sa_cons ?_ ?_
                                      · exact se_str
                                      · refine sa_cons ?_ ?_
                                        · exact se_int
                                        · refine sa_cons ?_ ?_
                                          · exact se_int
                                          · refine sa_cons ?_ ?_
                                            · exact se_non
                                            · refine sa_cons ?_ ?_
                                              · refine se_tup ?_
                                                refine sa_cons ?_ ?_
                                                · exact se_str
                                                · exact sa_nil
                                              · refine sa_cons ?_ ?_
                                                · exact se_var 9
                                                · refine sa_cons ?_ ?_
                                                  · refine se_lst ?_
                                                    exact sa_nil
                                                  · exact sa_nil
                                    · exact sa_nil
                                  · refine sa_cons ?_ ?_
                                    · refine se_callN D_is_rule hr hgu tk (by rfl) ?_
                                      refine sa_cons ?_ ?_
                                      · exact se_var 10
                                      · exact sa_nil
                                    · exact sa_nil
                              · refine sa_cons ?_ ?_
                                · refine se_lst ?_
                                  refine sa_cons ?_ ?_
                                  · exact se_bl
                                  · refine sa_cons ?_ ?_
                                    · exact se_bl
                                    · refine sa_cons ?_ ?_
                                      · exact se_bl
                                      · exact sa_nil
                                · exact sa_nil
                            · refine sss_one ?_
                              refine ss_ret ?_
                              exact se_bl
                            · exact sss_nil
                          · refine sss_one ?_
                            refine ss_ret ?_
                            refine se_and ?_ ?_
                            · exact se_call0 D__law_plain_right hr hgu tk (by rfl)
                            · refine se_one ?_
                              refine se_cmp (opd_eq hr.units) ?_ ?_ (nomark _)
                              · refine se_callB (cd_repr hgu (hu65 hr)) (by rfl) z.b_repr bb_repr ?_
                                refine sa_cons ?_ ?_
                                · refine se_lst ?_
                                  refine sa_cons ?_ ?_
                                  · exact se_var 3
                                  · refine sa_cons ?_ ?_
                                    · exact se_var 4
                                    · exact sa_nil
                                · exact sa_nil
                              · exact se_var 5

theorem all_defs (z : Zc K mg)
    (T_is_whole : Std K mg "is_whole" s_is_whole ["value"])
    (T_is_count : Std K mg "is_count" s_is_count ["value"])
    (T_is_between : Std K mg "is_between" s_is_between ["value", "low", "high"])
    (T_is_side : Std K mg "is_side" s_is_side ["value"])
    (T_are_rallies : Std K mg "are_rallies" s_are_rallies ["value"])
    (T_is_fraction : Std K mg "is_fraction" s_is_fraction ["value"])
    (T_is_chance : Std K mg "is_chance" s_is_chance ["value"])
    (T_is_word : Std K mg "is_word" s_is_word ["value", "word"])
    (T_is_order : Std K mg "is_order" s_is_order ["value"])
    (T_are_numbers_of_race : Std K mg "are_numbers_of_race" s_are_numbers_of_race ["need", "lead", "cap"])
    (T_is_score : Std K mg "is_score" s_is_score ["value"])
    (T_is_special : Std K mg "is_special" s_is_special ["value", "deep"])
    (T_are_specials : Std K mg "are_specials" s_are_specials ["value", "deep"])
    (T_is_rule_within : Std K mg "is_rule_within" s_is_rule_within ["value", "deep"])
    (T_is_rule : Std K mg "is_rule" s_is_rule ["value"])
    (T__law_hash : Std K mg "_law_hash" s__law_hash ["seed", "index"])
    (T__law_random : Std K mg "_law_random" s__law_random ["generator", "bound"])
    (T__law_cell : Std K mg "_law_cell" s__law_cell ["script", "index"])
    (T__law_generator : Std K mg "_law_generator" s__law_generator ["script", "index"])
    (T__law_pick : Std K mg "_law_pick" s__law_pick ["generator", "things"])
    (T__law_same : Std K mg "_law_same" s__law_same ["told", "due"])
    (T__law_order : Std K mg "_law_order" s__law_order ["generator"])
    (T__law_race : Std K mg "_law_race" s__law_race ["generator", "deep", "most"])
    (T__law_rule : Std K mg "_law_rule" s__law_rule ["generator", "deep", "most"])
    (T__law_nested : Std K mg "_law_nested" s__law_nested ["generator", "deep"])
    (T__law_wrong_races : Std K mg "_law_wrong_races" s__law_wrong_races ["rule"])
    (T__law_plain_right : Std K mg "_law_plain_right" s__law_plain_right []) {f : Addr} {fd : FuncData} (F : Fun K "law" "law" s_law f fd) : FnG P w K mg base 22 f fd ["script"] (spD K ca 1 g_law) := by
  have d_is_whole : Def P w K mg base ca "is_whole" ["value"] 1 g_is_whole := e_is_whole z T_is_whole
  have d_is_count : Def P w K mg base ca "is_count" ["value"] 2 g_is_count := e_is_count z T_is_count (d_is_whole.mono (by first | decide | omega))
  have d_is_between : Def P w K mg base ca "is_between" ["value", "low", "high"] 2 g_is_between := e_is_between z T_is_between (d_is_whole.mono (by first | decide | omega))
  have d_is_side : Def P w K mg base ca "is_side" ["value"] 3 g_is_side := e_is_side z T_is_side (d_is_between.mono (by first | decide | omega))
  have d_are_rallies : Def P w K mg base ca "are_rallies" ["value"] 4 g_are_rallies := e_are_rallies z T_are_rallies (d_is_side.mono (by first | decide | omega))
  have d_is_fraction : Def P w K mg base ca "is_fraction" ["value"] 2 g_is_fraction := e_is_fraction z T_is_fraction (d_is_whole.mono (by first | decide | omega))
  have d_is_chance : Def P w K mg base ca "is_chance" ["value"] 3 g_is_chance := e_is_chance z T_is_chance (d_is_fraction.mono (by first | decide | omega))
  have d_is_word : Def P w K mg base ca "is_word" ["value", "word"] 1 g_is_word := e_is_word z T_is_word
  have d_is_order : Def P w K mg base ca "is_order" ["value"] 4 g_is_order := e_is_order z T_is_order (d_is_word.mono (by first | decide | omega)) (d_is_side.mono (by first | decide | omega))
  have d_are_numbers_of_race : Def P w K mg base ca "are_numbers_of_race" ["need", "lead", "cap"] 3 g_are_numbers_of_race := e_are_numbers_of_race z T_are_numbers_of_race (d_is_between.mono (by first | decide | omega))
  have d_is_score : Def P w K mg base ca "is_score" ["value"] 3 g_is_score := e_is_score z T_is_score (d_is_count.mono (by first | decide | omega))
  have r_is_special : ∀ n : Nat, Def P w K mg base ca "is_special" ["value", "deep"] (4 + n) (g_is_special n) ∧ Def P w K mg base ca "are_specials" ["value", "deep"] (4 + n) (g_are_specials n) ∧ Def P w K mg base ca "is_rule_within" ["value", "deep"] (4 + n) (g_is_rule_within n) := by
    intro n
    induction n with
    | zero => exact ⟨T_is_special.never, T_are_specials.never, T_is_rule_within.never⟩
    | succ n ih => exact ⟨e_is_special (k := 4 + n) z T_is_special (d_is_score.mono (by first | decide | omega)) ih.2.2, e_are_specials (k := 4 + n) z T_are_specials ih.1, e_is_rule_within (k := 4 + n) z T_is_rule_within (d_is_word.mono (by first | decide | omega)) (d_are_numbers_of_race.mono (by first | decide | omega)) (d_is_order.mono (by first | decide | omega)) ih.2.2 ih.2.1⟩
  have d_is_special : Def P w K mg base ca "is_special" ["value", "deep"] 20 (g_is_special 16) := (r_is_special 16).1
  have d_are_specials : Def P w K mg base ca "are_specials" ["value", "deep"] 20 (g_are_specials 16) := (r_is_special 16).2.1
  have d_is_rule_within : Def P w K mg base ca "is_rule_within" ["value", "deep"] 20 (g_is_rule_within 16) := (r_is_special 16).2.2
  have d_is_rule : Def P w K mg base ca "is_rule" ["value"] 21 g_is_rule := e_is_rule z T_is_rule (d_is_rule_within.mono (by first | decide | omega))
  have d__law_hash : Def P w K mg base ca "_law_hash" ["seed", "index"] 1 g__law_hash := e__law_hash z T__law_hash
  have d__law_random : Def P w K mg base ca "_law_random" ["generator", "bound"] 2 g__law_random := e__law_random z T__law_random (d__law_hash.mono (by first | decide | omega))
  have d__law_cell : Def P w K mg base ca "_law_cell" ["script", "index"] 1 g__law_cell := e__law_cell z T__law_cell
  have d__law_generator : Def P w K mg base ca "_law_generator" ["script", "index"] 2 g__law_generator := e__law_generator z T__law_generator (d__law_cell.mono (by first | decide | omega))
  have d__law_pick : Def P w K mg base ca "_law_pick" ["generator", "things"] 3 g__law_pick := e__law_pick z T__law_pick (d__law_random.mono (by first | decide | omega))
  have r__law_same : ∀ n : Nat, Def P w K mg base ca "_law_same" ["told", "due"] (0 + n) (g__law_same n) := by
    intro n
    induction n with
    | zero => exact T__law_same.never
    | succ n ih => exact e__law_same (k := 0 + n) z T__law_same ih
  have d__law_same : Def P w K mg base ca "_law_same" ["told", "due"] 16 (g__law_same 16) := (r__law_same 16)
  have d__law_order : Def P w K mg base ca "_law_order" ["generator"] 4 g__law_order := e__law_order z T__law_order (d__law_pick.mono (by first | decide | omega)) (d__law_random.mono (by first | decide | omega))
  have r__law_race : ∀ n : Nat, Def P w K mg base ca "_law_race" ["generator", "deep", "most"] (4 + n) (g__law_race n) ∧ Def P w K mg base ca "_law_rule" ["generator", "deep", "most"] (4 + n) (g__law_rule n) := by
    intro n
    induction n with
    | zero => exact ⟨T__law_race.never, T__law_rule.never⟩
    | succ n ih => exact ⟨e__law_race (k := 4 + n) z T__law_race (d__law_random.mono (by first | decide | omega)) (d__law_pick.mono (by first | decide | omega)) ih.2 (d__law_order.mono (by first | decide | omega)), e__law_rule (k := 4 + n) z T__law_rule (d__law_random.mono (by first | decide | omega)) (d__law_pick.mono (by first | decide | omega)) ih.1⟩
  have d__law_race : Def P w K mg base ca "_law_race" ["generator", "deep", "most"] 20 (g__law_race 16) := (r__law_race 16).1
  have d__law_rule : Def P w K mg base ca "_law_rule" ["generator", "deep", "most"] 20 (g__law_rule 16) := (r__law_race 16).2
  have d__law_nested : Def P w K mg base ca "_law_nested" ["generator", "deep"] 5 g__law_nested := e__law_nested z T__law_nested (d__law_pick.mono (by first | decide | omega)) (d__law_random.mono (by first | decide | omega)) (d__law_order.mono (by first | decide | omega))
  have d__law_wrong_races : Def P w K mg base ca "_law_wrong_races" ["rule"] 1 g__law_wrong_races := e__law_wrong_races z T__law_wrong_races
  have d__law_plain_right : Def P w K mg base ca "_law_plain_right" [] 17 g__law_plain_right := e__law_plain_right z T__law_plain_right (d__law_same.mono (by first | decide | omega)) (d_are_rallies.mono (by first | decide | omega)) (d_is_side.mono (by first | decide | omega)) (d_is_score.mono (by first | decide | omega)) (d_is_order.mono (by first | decide | omega)) (d_is_fraction.mono (by first | decide | omega)) (d_is_chance.mono (by first | decide | omega))
  exact e_law (k := 21) z F (d__law_generator.mono (by first | decide | omega)) (d__law_random.mono (by first | decide | omega)) (d__law_nested.mono (by first | decide | omega)) (d__law_rule.mono (by first | decide | omega)) (d_is_rule.mono (by first | decide | omega)) (d__law_wrong_races.mono (by first | decide | omega)) (d__law_same.mono (by first | decide | omega)) (d__law_plain_right.mono (by first | decide | omega))
end
theorem all_mk {l : PySem.W.OpenLaw} {w : World} {K : PySem.W.Frag} {h : Heap} {mg : Str → Option Value} {fa : Addr} (X : K.In h) (G : h.Ns mainGlobals mg) (hfa : mg "law" = some (.ref fa))
    {od1 an1 : Option Addr} {sl1 : Array (Option Value)} {oc1 kV1 dc1 pm1 cd1 ct1 : Value} {f1 : Addr}
    (a1 : PySem.W.nsIn K mainGlobals "is_whole" = some (some (.ref f1))) (l1 : K.lookup f1 = some ⟨oc1, od1, .func (PySem.W.fnOf "is_whole" "is_whole" (defArgs s_is_whole) (defBody s_is_whole) (defScope s_is_whole) .none kV1 dc1 pm1 an1 cd1 ct1), sl1⟩) (c1 : PySem.W.codeIn K cd1 "is_whole" = true) (k1 : PySem.W.keepIn K (.ref f1) = true)
    {od2 an2 : Option Addr} {sl2 : Array (Option Value)} {oc2 kV2 dc2 pm2 cd2 ct2 : Value} {f2 : Addr}
    (a2 : PySem.W.nsIn K mainGlobals "is_count" = some (some (.ref f2))) (l2 : K.lookup f2 = some ⟨oc2, od2, .func (PySem.W.fnOf "is_count" "is_count" (defArgs s_is_count) (defBody s_is_count) (defScope s_is_count) .none kV2 dc2 pm2 an2 cd2 ct2), sl2⟩) (c2 : PySem.W.codeIn K cd2 "is_count" = true) (k2 : PySem.W.keepIn K (.ref f2) = true)
    {od3 an3 : Option Addr} {sl3 : Array (Option Value)} {oc3 kV3 dc3 pm3 cd3 ct3 : Value} {f3 : Addr}
    (a3 : PySem.W.nsIn K mainGlobals "is_between" = some (some (.ref f3))) (l3 : K.lookup f3 = some ⟨oc3, od3, .func (PySem.W.fnOf "is_between" "is_between" (defArgs s_is_between) (defBody s_is_between) (defScope s_is_between) .none kV3 dc3 pm3 an3 cd3 ct3), sl3⟩) (c3 : PySem.W.codeIn K cd3 "is_between" = true) (k3 : PySem.W.keepIn K (.ref f3) = true)
    {od4 an4 : Option Addr} {sl4 : Array (Option Value)} {oc4 kV4 dc4 pm4 cd4 ct4 : Value} {f4 : Addr}
    (a4 : PySem.W.nsIn K mainGlobals "is_side" = some (some (.ref f4))) (l4 : K.lookup f4 = some ⟨oc4, od4, .func (PySem.W.fnOf "is_side" "is_side" (defArgs s_is_side) (defBody s_is_side) (defScope s_is_side) .none kV4 dc4 pm4 an4 cd4 ct4), sl4⟩) (c4 : PySem.W.codeIn K cd4 "is_side" = true) (k4 : PySem.W.keepIn K (.ref f4) = true)
    {od5 an5 : Option Addr} {sl5 : Array (Option Value)} {oc5 kV5 dc5 pm5 cd5 ct5 : Value} {f5 : Addr}
    (a5 : PySem.W.nsIn K mainGlobals "are_rallies" = some (some (.ref f5))) (l5 : K.lookup f5 = some ⟨oc5, od5, .func (PySem.W.fnOf "are_rallies" "are_rallies" (defArgs s_are_rallies) (defBody s_are_rallies) (defScope s_are_rallies) .none kV5 dc5 pm5 an5 cd5 ct5), sl5⟩) (c5 : PySem.W.codeIn K cd5 "are_rallies" = true) (k5 : PySem.W.keepIn K (.ref f5) = true)
    {od6 an6 : Option Addr} {sl6 : Array (Option Value)} {oc6 kV6 dc6 pm6 cd6 ct6 : Value} {f6 : Addr}
    (a6 : PySem.W.nsIn K mainGlobals "is_fraction" = some (some (.ref f6))) (l6 : K.lookup f6 = some ⟨oc6, od6, .func (PySem.W.fnOf "is_fraction" "is_fraction" (defArgs s_is_fraction) (defBody s_is_fraction) (defScope s_is_fraction) .none kV6 dc6 pm6 an6 cd6 ct6), sl6⟩) (c6 : PySem.W.codeIn K cd6 "is_fraction" = true) (k6 : PySem.W.keepIn K (.ref f6) = true)
    {od7 an7 : Option Addr} {sl7 : Array (Option Value)} {oc7 kV7 dc7 pm7 cd7 ct7 : Value} {f7 : Addr}
    (a7 : PySem.W.nsIn K mainGlobals "is_chance" = some (some (.ref f7))) (l7 : K.lookup f7 = some ⟨oc7, od7, .func (PySem.W.fnOf "is_chance" "is_chance" (defArgs s_is_chance) (defBody s_is_chance) (defScope s_is_chance) .none kV7 dc7 pm7 an7 cd7 ct7), sl7⟩) (c7 : PySem.W.codeIn K cd7 "is_chance" = true) (k7 : PySem.W.keepIn K (.ref f7) = true)
    {od8 an8 : Option Addr} {sl8 : Array (Option Value)} {oc8 kV8 dc8 pm8 cd8 ct8 : Value} {f8 : Addr}
    (a8 : PySem.W.nsIn K mainGlobals "is_word" = some (some (.ref f8))) (l8 : K.lookup f8 = some ⟨oc8, od8, .func (PySem.W.fnOf "is_word" "is_word" (defArgs s_is_word) (defBody s_is_word) (defScope s_is_word) .none kV8 dc8 pm8 an8 cd8 ct8), sl8⟩) (c8 : PySem.W.codeIn K cd8 "is_word" = true) (k8 : PySem.W.keepIn K (.ref f8) = true)
    {od9 an9 : Option Addr} {sl9 : Array (Option Value)} {oc9 kV9 dc9 pm9 cd9 ct9 : Value} {f9 : Addr}
    (a9 : PySem.W.nsIn K mainGlobals "is_order" = some (some (.ref f9))) (l9 : K.lookup f9 = some ⟨oc9, od9, .func (PySem.W.fnOf "is_order" "is_order" (defArgs s_is_order) (defBody s_is_order) (defScope s_is_order) .none kV9 dc9 pm9 an9 cd9 ct9), sl9⟩) (c9 : PySem.W.codeIn K cd9 "is_order" = true) (k9 : PySem.W.keepIn K (.ref f9) = true)
    {od10 an10 : Option Addr} {sl10 : Array (Option Value)} {oc10 kV10 dc10 pm10 cd10 ct10 : Value} {f10 : Addr}
    (a10 : PySem.W.nsIn K mainGlobals "are_numbers_of_race" = some (some (.ref f10))) (l10 : K.lookup f10 = some ⟨oc10, od10, .func (PySem.W.fnOf "are_numbers_of_race" "are_numbers_of_race" (defArgs s_are_numbers_of_race) (defBody s_are_numbers_of_race) (defScope s_are_numbers_of_race) .none kV10 dc10 pm10 an10 cd10 ct10), sl10⟩) (c10 : PySem.W.codeIn K cd10 "are_numbers_of_race" = true) (k10 : PySem.W.keepIn K (.ref f10) = true)
    {od11 an11 : Option Addr} {sl11 : Array (Option Value)} {oc11 kV11 dc11 pm11 cd11 ct11 : Value} {f11 : Addr}
    (a11 : PySem.W.nsIn K mainGlobals "is_score" = some (some (.ref f11))) (l11 : K.lookup f11 = some ⟨oc11, od11, .func (PySem.W.fnOf "is_score" "is_score" (defArgs s_is_score) (defBody s_is_score) (defScope s_is_score) .none kV11 dc11 pm11 an11 cd11 ct11), sl11⟩) (c11 : PySem.W.codeIn K cd11 "is_score" = true) (k11 : PySem.W.keepIn K (.ref f11) = true)
    {od12 an12 : Option Addr} {sl12 : Array (Option Value)} {oc12 kV12 dc12 pm12 cd12 ct12 : Value} {f12 : Addr}
    (a12 : PySem.W.nsIn K mainGlobals "is_special" = some (some (.ref f12))) (l12 : K.lookup f12 = some ⟨oc12, od12, .func (PySem.W.fnOf "is_special" "is_special" (defArgs s_is_special) (defBody s_is_special) (defScope s_is_special) .none kV12 dc12 pm12 an12 cd12 ct12), sl12⟩) (c12 : PySem.W.codeIn K cd12 "is_special" = true) (k12 : PySem.W.keepIn K (.ref f12) = true)
    {od13 an13 : Option Addr} {sl13 : Array (Option Value)} {oc13 kV13 dc13 pm13 cd13 ct13 : Value} {f13 : Addr}
    (a13 : PySem.W.nsIn K mainGlobals "are_specials" = some (some (.ref f13))) (l13 : K.lookup f13 = some ⟨oc13, od13, .func (PySem.W.fnOf "are_specials" "are_specials" (defArgs s_are_specials) (defBody s_are_specials) (defScope s_are_specials) .none kV13 dc13 pm13 an13 cd13 ct13), sl13⟩) (c13 : PySem.W.codeIn K cd13 "are_specials" = true) (k13 : PySem.W.keepIn K (.ref f13) = true)
    {od14 an14 : Option Addr} {sl14 : Array (Option Value)} {oc14 kV14 dc14 pm14 cd14 ct14 : Value} {f14 : Addr}
    (a14 : PySem.W.nsIn K mainGlobals "is_rule_within" = some (some (.ref f14))) (l14 : K.lookup f14 = some ⟨oc14, od14, .func (PySem.W.fnOf "is_rule_within" "is_rule_within" (defArgs s_is_rule_within) (defBody s_is_rule_within) (defScope s_is_rule_within) .none kV14 dc14 pm14 an14 cd14 ct14), sl14⟩) (c14 : PySem.W.codeIn K cd14 "is_rule_within" = true) (k14 : PySem.W.keepIn K (.ref f14) = true)
    {od15 an15 : Option Addr} {sl15 : Array (Option Value)} {oc15 kV15 dc15 pm15 cd15 ct15 : Value} {f15 : Addr}
    (a15 : PySem.W.nsIn K mainGlobals "is_rule" = some (some (.ref f15))) (l15 : K.lookup f15 = some ⟨oc15, od15, .func (PySem.W.fnOf "is_rule" "is_rule" (defArgs s_is_rule) (defBody s_is_rule) (defScope s_is_rule) .none kV15 dc15 pm15 an15 cd15 ct15), sl15⟩) (c15 : PySem.W.codeIn K cd15 "is_rule" = true) (k15 : PySem.W.keepIn K (.ref f15) = true)
    {od16 an16 : Option Addr} {sl16 : Array (Option Value)} {oc16 kV16 dc16 pm16 cd16 ct16 : Value} {f16 : Addr}
    (a16 : PySem.W.nsIn K mainGlobals "_law_hash" = some (some (.ref f16))) (l16 : K.lookup f16 = some ⟨oc16, od16, .func (PySem.W.fnOf "_law_hash" "_law_hash" (defArgs s__law_hash) (defBody s__law_hash) (defScope s__law_hash) .none kV16 dc16 pm16 an16 cd16 ct16), sl16⟩) (c16 : PySem.W.codeIn K cd16 "_law_hash" = true) (k16 : PySem.W.keepIn K (.ref f16) = true)
    {od17 an17 : Option Addr} {sl17 : Array (Option Value)} {oc17 kV17 dc17 pm17 cd17 ct17 : Value} {f17 : Addr}
    (a17 : PySem.W.nsIn K mainGlobals "_law_random" = some (some (.ref f17))) (l17 : K.lookup f17 = some ⟨oc17, od17, .func (PySem.W.fnOf "_law_random" "_law_random" (defArgs s__law_random) (defBody s__law_random) (defScope s__law_random) .none kV17 dc17 pm17 an17 cd17 ct17), sl17⟩) (c17 : PySem.W.codeIn K cd17 "_law_random" = true) (k17 : PySem.W.keepIn K (.ref f17) = true)
    {od18 an18 : Option Addr} {sl18 : Array (Option Value)} {oc18 kV18 dc18 pm18 cd18 ct18 : Value} {f18 : Addr}
    (a18 : PySem.W.nsIn K mainGlobals "_law_cell" = some (some (.ref f18))) (l18 : K.lookup f18 = some ⟨oc18, od18, .func (PySem.W.fnOf "_law_cell" "_law_cell" (defArgs s__law_cell) (defBody s__law_cell) (defScope s__law_cell) .none kV18 dc18 pm18 an18 cd18 ct18), sl18⟩) (c18 : PySem.W.codeIn K cd18 "_law_cell" = true) (k18 : PySem.W.keepIn K (.ref f18) = true)
    {od19 an19 : Option Addr} {sl19 : Array (Option Value)} {oc19 kV19 dc19 pm19 cd19 ct19 : Value} {f19 : Addr}
    (a19 : PySem.W.nsIn K mainGlobals "_law_generator" = some (some (.ref f19))) (l19 : K.lookup f19 = some ⟨oc19, od19, .func (PySem.W.fnOf "_law_generator" "_law_generator" (defArgs s__law_generator) (defBody s__law_generator) (defScope s__law_generator) .none kV19 dc19 pm19 an19 cd19 ct19), sl19⟩) (c19 : PySem.W.codeIn K cd19 "_law_generator" = true) (k19 : PySem.W.keepIn K (.ref f19) = true)
    {od20 an20 : Option Addr} {sl20 : Array (Option Value)} {oc20 kV20 dc20 pm20 cd20 ct20 : Value} {f20 : Addr}
    (a20 : PySem.W.nsIn K mainGlobals "_law_pick" = some (some (.ref f20))) (l20 : K.lookup f20 = some ⟨oc20, od20, .func (PySem.W.fnOf "_law_pick" "_law_pick" (defArgs s__law_pick) (defBody s__law_pick) (defScope s__law_pick) .none kV20 dc20 pm20 an20 cd20 ct20), sl20⟩) (c20 : PySem.W.codeIn K cd20 "_law_pick" = true) (k20 : PySem.W.keepIn K (.ref f20) = true)
    {od21 an21 : Option Addr} {sl21 : Array (Option Value)} {oc21 kV21 dc21 pm21 cd21 ct21 : Value} {f21 : Addr}
    (a21 : PySem.W.nsIn K mainGlobals "_law_same" = some (some (.ref f21))) (l21 : K.lookup f21 = some ⟨oc21, od21, .func (PySem.W.fnOf "_law_same" "_law_same" (defArgs s__law_same) (defBody s__law_same) (defScope s__law_same) .none kV21 dc21 pm21 an21 cd21 ct21), sl21⟩) (c21 : PySem.W.codeIn K cd21 "_law_same" = true) (k21 : PySem.W.keepIn K (.ref f21) = true)
    {od22 an22 : Option Addr} {sl22 : Array (Option Value)} {oc22 kV22 dc22 pm22 cd22 ct22 : Value} {f22 : Addr}
    (a22 : PySem.W.nsIn K mainGlobals "_law_order" = some (some (.ref f22))) (l22 : K.lookup f22 = some ⟨oc22, od22, .func (PySem.W.fnOf "_law_order" "_law_order" (defArgs s__law_order) (defBody s__law_order) (defScope s__law_order) .none kV22 dc22 pm22 an22 cd22 ct22), sl22⟩) (c22 : PySem.W.codeIn K cd22 "_law_order" = true) (k22 : PySem.W.keepIn K (.ref f22) = true)
    {od23 an23 : Option Addr} {sl23 : Array (Option Value)} {oc23 kV23 dc23 pm23 cd23 ct23 : Value} {f23 : Addr}
    (a23 : PySem.W.nsIn K mainGlobals "_law_race" = some (some (.ref f23))) (l23 : K.lookup f23 = some ⟨oc23, od23, .func (PySem.W.fnOf "_law_race" "_law_race" (defArgs s__law_race) (defBody s__law_race) (defScope s__law_race) .none kV23 dc23 pm23 an23 cd23 ct23), sl23⟩) (c23 : PySem.W.codeIn K cd23 "_law_race" = true) (k23 : PySem.W.keepIn K (.ref f23) = true)
    {od24 an24 : Option Addr} {sl24 : Array (Option Value)} {oc24 kV24 dc24 pm24 cd24 ct24 : Value} {f24 : Addr}
    (a24 : PySem.W.nsIn K mainGlobals "_law_rule" = some (some (.ref f24))) (l24 : K.lookup f24 = some ⟨oc24, od24, .func (PySem.W.fnOf "_law_rule" "_law_rule" (defArgs s__law_rule) (defBody s__law_rule) (defScope s__law_rule) .none kV24 dc24 pm24 an24 cd24 ct24), sl24⟩) (c24 : PySem.W.codeIn K cd24 "_law_rule" = true) (k24 : PySem.W.keepIn K (.ref f24) = true)
    {od25 an25 : Option Addr} {sl25 : Array (Option Value)} {oc25 kV25 dc25 pm25 cd25 ct25 : Value} {f25 : Addr}
    (a25 : PySem.W.nsIn K mainGlobals "_law_nested" = some (some (.ref f25))) (l25 : K.lookup f25 = some ⟨oc25, od25, .func (PySem.W.fnOf "_law_nested" "_law_nested" (defArgs s__law_nested) (defBody s__law_nested) (defScope s__law_nested) .none kV25 dc25 pm25 an25 cd25 ct25), sl25⟩) (c25 : PySem.W.codeIn K cd25 "_law_nested" = true) (k25 : PySem.W.keepIn K (.ref f25) = true)
    {od26 an26 : Option Addr} {sl26 : Array (Option Value)} {oc26 kV26 dc26 pm26 cd26 ct26 : Value} {f26 : Addr}
    (a26 : PySem.W.nsIn K mainGlobals "_law_wrong_races" = some (some (.ref f26))) (l26 : K.lookup f26 = some ⟨oc26, od26, .func (PySem.W.fnOf "_law_wrong_races" "_law_wrong_races" (defArgs s__law_wrong_races) (defBody s__law_wrong_races) (defScope s__law_wrong_races) .none kV26 dc26 pm26 an26 cd26 ct26), sl26⟩) (c26 : PySem.W.codeIn K cd26 "_law_wrong_races" = true) (k26 : PySem.W.keepIn K (.ref f26) = true)
    {od27 an27 : Option Addr} {sl27 : Array (Option Value)} {oc27 kV27 dc27 pm27 cd27 ct27 : Value} {f27 : Addr}
    (a27 : PySem.W.nsIn K mainGlobals "_law_plain_right" = some (some (.ref f27))) (l27 : K.lookup f27 = some ⟨oc27, od27, .func (PySem.W.fnOf "_law_plain_right" "_law_plain_right" (defArgs s__law_plain_right) (defBody s__law_plain_right) (defScope s__law_plain_right) .none kV27 dc27 pm27 an27 cd27 ct27), sl27⟩) (c27 : PySem.W.codeIn K cd27 "_law_plain_right" = true) (k27 : PySem.W.keepIn K (.ref f27) = true)
    {od28 an28 : Option Addr} {sl28 : Array (Option Value)} {oc28 kV28 dc28 pm28 cd28 ct28 : Value} {f28 : Addr}
    (a28 : PySem.W.nsIn K mainGlobals "law" = some (some (.ref f28))) (l28 : K.lookup f28 = some ⟨oc28, od28, .func (PySem.W.fnOf "law" "law" (defArgs s_law) (defBody s_law) (defScope s_law) .none kV28 dc28 pm28 an28 cd28 ct28), sl28⟩) (c28 : PySem.W.codeIn K cd28 "law" = true) (k28 : PySem.W.keepIn K (.ref f28) = true)
    (z1 : PySem.W.nsIn K mainGlobals "bool" = some none)
    (z2 : PySem.W.nsIn K mainGlobals "int" = some none)
    (z3 : PySem.W.nsIn K mainGlobals "isinstance" = some none)
    (z4 : PySem.W.nsIn K mainGlobals "len" = some none)
    (z5 : PySem.W.nsIn K mainGlobals "list" = some none)
    (z6 : PySem.W.nsIn K mainGlobals "max" = some none)
    (z7 : PySem.W.nsIn K mainGlobals "range" = some none)
    (z8 : PySem.W.nsIn K mainGlobals "repr" = some none)
    (z9 : PySem.W.nsIn K mainGlobals "sorted" = some none)
    (z10 : PySem.W.nsIn K mainGlobals "str" = some none)
    (z11 : PySem.W.nsIn K mainGlobals "sum" = some none)
    (z12 : PySem.W.nsIn K mainGlobals "tuple" = some none)
    (z13 : PySem.W.nsIn K mainGlobals "gcd" = some (some (.builtin "math.gcd")))
    {t14 : Tok} (z14 : PySem.W.nsIn K mainGlobals "DEEPEST" = some (some (.int 4 t14)))
    {t15_0 t15_1 t15_2 t15_3 : Tok} {o15 : Addr} {n15 : Nat} (z15 : PySem.W.nsIn K mainGlobals "ORDERS" = some (some (.ref o15))) (y15 : K.lookup o15 = some ⟨.type "list", none, .seq #[.str "on" t15_0, .str "turns" t15_1, .str "winner" t15_2, .str "loser" t15_3] n15, #[]⟩) :
    ∃ (fd : FuncData) (ca : Str → Addr), (∀ (s : Shared) (u : Value), BindsTo s fd ⟨[u], []⟩ [("script", u)]) ∧ ∀ base : Heap, K.In base → base.Ns mainGlobals mg → FnG l.prog w K mg base 22 fa fd ["script"] (spD K ca 1 g_law) := by
  have e := hfa.symm.trans (PySem.W.mg_of X G a28)
  cases e
  have T_is_whole : Std K mg "is_whole" s_is_whole ["value"] := std_mk X G a1 l1 c1 k1 fun _ _ _ _ _ _ us hl => match us, hl with | [_], _ => rfl
  have T_is_count : Std K mg "is_count" s_is_count ["value"] := std_mk X G a2 l2 c2 k2 fun _ _ _ _ _ _ us hl => match us, hl with | [_], _ => rfl
  have T_is_between : Std K mg "is_between" s_is_between ["value", "low", "high"] := std_mk X G a3 l3 c3 k3 fun _ _ _ _ _ _ us hl => match us, hl with | [_, _, _], _ => rfl
  have T_is_side : Std K mg "is_side" s_is_side ["value"] := std_mk X G a4 l4 c4 k4 fun _ _ _ _ _ _ us hl => match us, hl with | [_], _ => rfl
  have T_are_rallies : Std K mg "are_rallies" s_are_rallies ["value"] := std_mk X G a5 l5 c5 k5 fun _ _ _ _ _ _ us hl => match us, hl with | [_], _ => rfl
  have T_is_fraction : Std K mg "is_fraction" s_is_fraction ["value"] := std_mk X G a6 l6 c6 k6 fun _ _ _ _ _ _ us hl => match us, hl with | [_], _ => rfl
  have T_is_chance : Std K mg "is_chance" s_is_chance ["value"] := std_mk X G a7 l7 c7 k7 fun _ _ _ _ _ _ us hl => match us, hl with | [_], _ => rfl
  have T_is_word : Std K mg "is_word" s_is_word ["value", "word"] := std_mk X G a8 l8 c8 k8 fun _ _ _ _ _ _ us hl => match us, hl with | [_, _], _ => rfl
  have T_is_order : Std K mg "is_order" s_is_order ["value"] := std_mk X G a9 l9 c9 k9 fun _ _ _ _ _ _ us hl => match us, hl with | [_], _ => rfl
  have T_are_numbers_of_race : Std K mg "are_numbers_of_race" s_are_numbers_of_race ["need", "lead", "cap"] := std_mk X G a10 l10 c10 k10 fun _ _ _ _ _ _ us hl => match us, hl with | [_, _, _], _ => rfl
  have T_is_score : Std K mg "is_score" s_is_score ["value"] := std_mk X G a11 l11 c11 k11 fun _ _ _ _ _ _ us hl => match us, hl with | [_], _ => rfl
  have T_is_special : Std K mg "is_special" s_is_special ["value", "deep"] := std_mk X G a12 l12 c12 k12 fun _ _ _ _ _ _ us hl => match us, hl with | [_, _], _ => rfl
  have T_are_specials : Std K mg "are_specials" s_are_specials ["value", "deep"] := std_mk X G a13 l13 c13 k13 fun _ _ _ _ _ _ us hl => match us, hl with | [_, _], _ => rfl
  have T_is_rule_within : Std K mg "is_rule_within" s_is_rule_within ["value", "deep"] := std_mk X G a14 l14 c14 k14 fun _ _ _ _ _ _ us hl => match us, hl with | [_, _], _ => rfl
  have T_is_rule : Std K mg "is_rule" s_is_rule ["value"] := std_mk X G a15 l15 c15 k15 fun _ _ _ _ _ _ us hl => match us, hl with | [_], _ => rfl
  have T__law_hash : Std K mg "_law_hash" s__law_hash ["seed", "index"] := std_mk X G a16 l16 c16 k16 fun _ _ _ _ _ _ us hl => match us, hl with | [_, _], _ => rfl
  have T__law_random : Std K mg "_law_random" s__law_random ["generator", "bound"] := std_mk X G a17 l17 c17 k17 fun _ _ _ _ _ _ us hl => match us, hl with | [_, _], _ => rfl
  have T__law_cell : Std K mg "_law_cell" s__law_cell ["script", "index"] := std_mk X G a18 l18 c18 k18 fun _ _ _ _ _ _ us hl => match us, hl with | [_, _], _ => rfl
  have T__law_generator : Std K mg "_law_generator" s__law_generator ["script", "index"] := std_mk X G a19 l19 c19 k19 fun _ _ _ _ _ _ us hl => match us, hl with | [_, _], _ => rfl
  have T__law_pick : Std K mg "_law_pick" s__law_pick ["generator", "things"] := std_mk X G a20 l20 c20 k20 fun _ _ _ _ _ _ us hl => match us, hl with | [_, _], _ => rfl
  have T__law_same : Std K mg "_law_same" s__law_same ["told", "due"] := std_mk X G a21 l21 c21 k21 fun _ _ _ _ _ _ us hl => match us, hl with | [_, _], _ => rfl
  have T__law_order : Std K mg "_law_order" s__law_order ["generator"] := std_mk X G a22 l22 c22 k22 fun _ _ _ _ _ _ us hl => match us, hl with | [_], _ => rfl
  have T__law_race : Std K mg "_law_race" s__law_race ["generator", "deep", "most"] := std_mk X G a23 l23 c23 k23 fun _ _ _ _ _ _ us hl => match us, hl with | [_, _, _], _ => rfl
  have T__law_rule : Std K mg "_law_rule" s__law_rule ["generator", "deep", "most"] := std_mk X G a24 l24 c24 k24 fun _ _ _ _ _ _ us hl => match us, hl with | [_, _, _], _ => rfl
  have T__law_nested : Std K mg "_law_nested" s__law_nested ["generator", "deep"] := std_mk X G a25 l25 c25 k25 fun _ _ _ _ _ _ us hl => match us, hl with | [_, _], _ => rfl
  have T__law_wrong_races : Std K mg "_law_wrong_races" s__law_wrong_races ["rule"] := std_mk X G a26 l26 c26 k26 fun _ _ _ _ _ _ us hl => match us, hl with | [_], _ => rfl
  have T__law_plain_right : Std K mg "_law_plain_right" s__law_plain_right [] := std_mk X G a27 l27 c27 k27 fun _ _ _ _ _ _ us hl => match us, hl with | [], _ => rfl
  have z : Zc K mg := ⟨PySem.W.mg_none_of X G z1, PySem.W.mg_none_of X G z2, PySem.W.mg_none_of X G z3, PySem.W.mg_none_of X G z4, PySem.W.mg_none_of X G z5, PySem.W.mg_none_of X G z6, PySem.W.mg_none_of X G z7, PySem.W.mg_none_of X G z8, PySem.W.mg_none_of X G z9, PySem.W.mg_none_of X G z10, PySem.W.mg_none_of X G z11, PySem.W.mg_none_of X G z12, globF X G z13, globI X G z14, globL [("on", t15_0), ("turns", t15_1), ("winner", t15_2), ("loser", t15_3)] X G z15 y15⟩
  exact ⟨_, fun _ => 0, fun s u => .of_eq rfl, fun base _ _ => all_defs z T_is_whole T_is_count T_is_between T_is_side T_are_rallies T_is_fraction T_is_chance T_is_word T_is_order T_are_numbers_of_race T_is_score T_is_special T_are_specials T_is_rule_within T_is_rule T__law_hash T__law_random T__law_cell T__law_generator T__law_pick T__law_same T__law_order T__law_race T__law_rule T__law_nested T__law_wrong_races T__law_plain_right (fun_mk (st := s_law) l28 c28 k28)⟩
end K1

set_option maxHeartbeats 4000000
open PySem PySem.W PyProof.Rows
set_option maxHeartbeats 0 in
theorem PySem.Challenge.cw_anyserve_k01_rules_and_other_values_holds : PySem.Challenge.rw_anyserve_k01_rules_and_other_values.Holds := by
  w_on; o_law; k_head; (case hw => w_witness2)
  k_fill
  refine DL.walk_D (l := PySem.Challenge.rw_anyserve_k01_rules_and_other_values) (n := 63) (k := 22) (x := "script") (g := K1.g_law) rfl (by decide) rfl ⟨rfl, by decide, by decide⟩ (fun w h Y => PySem.W.kIn_of Y) ?F K1.law_ok
  case F =>
    intro w mg fa h KX G hmg
    refine' K1.all_mk KX G hmg ?a1 ?l1 ?c1 ?k1 ?a2 ?l2 ?c2 ?k2 ?a3 ?l3 ?c3 ?k3 ?a4 ?l4 ?c4 ?k4 ?a5 ?l5 ?c5 ?k5 ?a6 ?l6 ?c6 ?k6 ?a7 ?l7 ?c7 ?k7 ?a8 ?l8 ?c8 ?k8 ?a9 ?l9 ?c9 ?k9 ?a10 ?l10 ?c10 ?k10 ?a11 ?l11 ?c11 ?k11 ?a12 ?l12 ?c12 ?k12 ?a13 ?l13 ?c13 ?k13 ?a14 ?l14 ?c14 ?k14 ?a15 ?l15 ?c15 ?k15 ?a16 ?l16 ?c16 ?k16 ?a17 ?l17 ?c17 ?k17 ?a18 ?l18 ?c18 ?k18 ?a19 ?l19 ?c19 ?k19 ?a20 ?l20 ?c20 ?k20 ?a21 ?l21 ?c21 ?k21 ?a22 ?l22 ?c22 ?k22 ?a23 ?l23 ?c23 ?k23 ?a24 ?l24 ?c24 ?k24 ?a25 ?l25 ?c25 ?k25 ?a26 ?l26 ?c26 ?k26 ?a27 ?l27 ?c27 ?k27 ?a28 ?l28 ?c28 ?k28 ?z1 ?z2 ?z3 ?z4 ?z5 ?z6 ?z7 ?z8 ?z9 ?z10 ?z11 ?z12 ?z13 ?z14 ?z15 ?y15
    (case a1 => k_is); (case l1 => k_is); (case c1 => k_is); (case k1 => k_is); (case a2 => k_is); (case l2 => k_is); (case c2 => k_is); (case k2 => k_is); (case a3 => k_is); (case l3 => k_is); (case c3 => k_is); (case k3 => k_is); (case a4 => k_is); (case l4 => k_is); (case c4 => k_is); (case k4 => k_is); (case a5 => k_is); (case l5 => k_is); (case c5 => k_is); (case k5 => k_is); (case a6 => k_is); (case l6 => k_is); (case c6 => k_is); (case k6 => k_is); (case a7 => k_is); (case l7 => k_is); (case c7 => k_is); (case k7 => k_is); (case a8 => k_is); (case l8 => k_is); (case c8 => k_is); (case k8 => k_is); (case a9 => k_is); (case l9 => k_is); (case c9 => k_is); (case k9 => k_is); (case a10 => k_is); (case l10 => k_is); (case c10 => k_is); (case k10 => k_is); (case a11 => k_is); (case l11 => k_is); (case c11 => k_is); (case k11 => k_is); (case a12 => k_is); (case l12 => k_is); (case c12 => k_is); (case k12 => k_is); (case a13 => k_is); (case l13 => k_is); (case c13 => k_is); (case k13 => k_is); (case a14 => k_is); (case l14 => k_is); (case c14 => k_is); (case k14 => k_is); (case a15 => k_is); (case l15 => k_is); (case c15 => k_is); (case k15 => k_is); (case a16 => k_is); (case l16 => k_is); (case c16 => k_is); (case k16 => k_is); (case a17 => k_is); (case l17 => k_is); (case c17 => k_is); (case k17 => k_is); (case a18 => k_is); (case l18 => k_is); (case c18 => k_is); (case k18 => k_is); (case a19 => k_is); (case l19 => k_is); (case c19 => k_is); (case k19 => k_is); (case a20 => k_is); (case l20 => k_is); (case c20 => k_is); (case k20 => k_is); (case a21 => k_is); (case l21 => k_is); (case c21 => k_is); (case k21 => k_is); (case a22 => k_is); (case l22 => k_is); (case c22 => k_is); (case k22 => k_is); (case a23 => k_is); (case l23 => k_is); (case c23 => k_is); (case k23 => k_is); (case a24 => k_is); (case l24 => k_is); (case c24 => k_is); (case k24 => k_is); (case a25 => k_is); (case l25 => k_is); (case c25 => k_is); (case k25 => k_is); (case a26 => k_is); (case l26 => k_is); (case c26 => k_is); (case k26 => k_is); (case a27 => k_is); (case l27 => k_is); (case c27 => k_is); (case k27 => k_is); (case a28 => k_is); (case l28 => k_is); (case c28 => k_is); (case k28 => k_is); (case z1 => k_is); (case z2 => k_is); (case z3 => k_is); (case z4 => k_is); (case z5 => k_is); (case z6 => k_is); (case z7 => k_is); (case z8 => k_is); (case z9 => k_is); (case z10 => k_is); (case z11 => k_is); (case z12 => k_is); (case z13 => k_is); (case z14 => k_is); (case z15 => k_is); (case y15 => k_is)

